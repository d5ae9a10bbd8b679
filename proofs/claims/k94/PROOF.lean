import PyProof.Rows.All
import Wide.All
import OpenK.AllK
import Wide.FinOn
import HandS.Dict
import HandS.Iter
import HandS.Words
import HandS.Evl
import HandS.TupAny
import HandS.Conv
import HandS.IsInst
import HandS.Deep
import HandS.Style
import HandS.WordsList
import HandS.WordsDict
import HandS.SortInts
import HandS.SortRule
import HandS.SetFor
import HandS.Strs
import HandS.TupSets
import KE.GoesEnum
import KE.GoesZip
import HandS.More
import HandS.Text
import HandS.SetBool
import HandS.SetKeys
import PySem.Challenge.RW_coresprice_k94_whole_prices_of_rows_by_a
set_option Elab.async false
set_option autoImplicit false
set_option linter.all false
set_option maxRecDepth 100000
set_option maxHeartbeats 4000000
/-! Data over the hand layer: D (what a value is worth), slots M, states Rs, judgements without a heap. -/
namespace Dl
open PySem L2 Evl

/-- what a value is worth -/
inductive D where
  | non | bl (b : Bool) | int (i : Int) | str (x : Str) | ty (n : String)
  | tup (xs : List D) | lst (xs : List D)
  | dk (ks : List Key) (xs : List D) | dt (ks : List (List Key)) (xs : List D)
  | ins (C : Addr) (ns : List Str) (xs : List D)

mutual
/-- the value v is worth d, as the heap H tells -/
def Rp (K : PySem.W.Frag) (H : Hp) : D → V → Prop
  | .non, v => v = .non
  | .bl b, v => v = .bl b
  | .int i, v => v = .int i
  | .str x, v => v = .str x
  | .ty n, v => v = .ty n
  | .tup ds, v => ∃ a vs, v = .ref a ∧ H a = some (.tup vs) ∧ Rps K H ds vs
  | .lst ds, v => ∃ a vs, v = .ref a ∧ H a = some (.lst vs) ∧ Rps K H ds vs
  | .dk ks ds, v => ∃ a vs, v = .ref a ∧ H a = some (.dK (ks.zip vs)) ∧ ks.length = vs.length ∧ Rps K H ds vs
  | .dt ks ds, v => ∃ a vs, v = .ref a ∧ H a = some (.dT (ks.zip vs)) ∧ ks.length = vs.length ∧ Rps K H ds vs
  | .ins C ns ds, v => ∃ a dx vs, v = .ref a ∧ H a = some (.ins C dx (ns.zip vs)) ∧ ns.length = vs.length ∧ Rps K H ds vs
def Rps (K : PySem.W.Frag) (H : Hp) : List D → List V → Prop
  | [], vs => vs = []
  | d :: ds, vs => ∃ v r, vs = v :: r ∧ Rp K H d v ∧ Rps K H ds r
end

section
variable {K : PySem.W.Frag} {H H' : Hp}
mutual
theorem Rp.mono (e : Ex H H') : ∀ (d : D) (v : V), Rp K H d v → Rp K H' d v
  | .non, v, h => by unfold Rp at *; exact h
  | .bl b, v, h => by unfold Rp at *; exact h
  | .int b, v, h => by unfold Rp at *; exact h
  | .str b, v, h => by unfold Rp at *; exact h
  | .ty b, v, h => by unfold Rp at *; exact h
  | .tup ds, v, h => by
    unfold Rp at *
    obtain ⟨a, vs, h1, h2, h3⟩ := h
    exact ⟨a, vs, h1, e _ _ h2, Rps.mono e ds vs h3⟩
  | .lst ds, v, h => by
    unfold Rp at *
    obtain ⟨a, vs, h1, h2, h3⟩ := h
    exact ⟨a, vs, h1, e _ _ h2, Rps.mono e ds vs h3⟩
  | .dk ks ds, v, h => by
    unfold Rp at *
    obtain ⟨a, vs, h1, h2, hl, h3⟩ := h
    exact ⟨a, vs, h1, e _ _ h2, hl, Rps.mono e ds vs h3⟩
  | .dt ks ds, v, h => by
    unfold Rp at *
    obtain ⟨a, vs, h1, h2, hl, h3⟩ := h
    exact ⟨a, vs, h1, e _ _ h2, hl, Rps.mono e ds vs h3⟩
  | .ins C ns ds, v, h => by
    unfold Rp at *
    obtain ⟨a, dx, vs, h1, h2, hl, h3⟩ := h
    exact ⟨a, dx, vs, h1, e _ _ h2, hl, Rps.mono e ds vs h3⟩
theorem Rps.mono (e : Ex H H') : ∀ (ds : List D) (vs : List V), Rps K H ds vs → Rps K H' ds vs
  | [], vs, h => by unfold Rps at *; exact h
  | d :: ds, vs, h => by
    unfold Rps at *
    obtain ⟨v, r, h1, h2, h3⟩ := h
    exact ⟨v, r, h1, Rp.mono e d v h2, Rps.mono e ds r h3⟩
end
end

/-! ### owned objects, slots, states -/
/-- the object at l, that may be changed, is worth d; its parts as H0 tells -/
def Ro (K : PySem.W.Frag) (H0 H : Hp) : D → Addr → Prop
  | .lst ds, l => ∃ vs, H l = some (.lst vs) ∧ Rps K H0 ds vs
  | .dk ks ds, l => ∃ vs, H l = some (.dK (ks.zip vs)) ∧ ks.length = vs.length ∧ Rps K H0 ds vs
  | .dt ks ds, l => ∃ vs, H l = some (.dT (ks.zip vs)) ∧ ks.length = vs.length ∧ Rps K H0 ds vs
  | .ins C ns ds, l => ∃ dx vs, H l = some (.ins C dx (ns.zip vs)) ∧ ns.length = vs.length ∧ Rps K H0 ds vs
  | _, _ => False
/-- what may be read as d: it is d for good, or an object that may change later -/
def Rb (K : PySem.W.Frag) (H0 H : Hp) (d : D) (v : V) : Prop := Rp K H0 d v ∨ ∃ l, v = .ref l ∧ Ro K H0 H d l

/-- what a slot holds: nothing known | data | a caller's object, read only | an own object | an own object of which only φ is known | the script -/
inductive M where
  | no | d (x : D) | b (x : D) | o (x : D) | e (φ : D → Prop) | q (ns : List Int)
def M.own : M → Bool
  | .o _ => true
  | .e _ => true
  | _ => false
def Rm (K : PySem.W.Frag) (G H0 H : Hp) : M → Option V → Prop
  | .no, _ => True
  | .d x, ov => ∃ v, ov = some v ∧ Rp K H0 x v
  | .b x, ov => ∃ l, ov = some (.ref l) ∧ Ro K H0 G x l
  | .q ns, ov => ∃ a, ov = some (.ref a) ∧ SqL K G a (ns.map V.int)
  | .o x, ov => ∃ l, ov = some (.ref l) ∧ H0 l = none ∧ G l = none ∧ Ro K H0 H x l
  | .e φ, ov => ∃ l x, φ x ∧ ov = some (.ref l) ∧ H0 l = none ∧ G l = none ∧ Ro K H0 H x l

structure Rs (K : PySem.W.Frag) (Pn : List Nat) (pl : Nat → V) (G H0 H : Hp) (σ : L2.St) (S : List M) : Prop where
  len : σ.length = S.length
  e0 : Ex H0 H
  eg : Ex G H
  sl : ∀ (i : Nat) (m : M), S[i]? = some m → ∃ ov, σ[i]? = some ov ∧ Rm K G H0 H m ov
  ap : ∀ (i j : Nat) (a b : M), S[i]? = some a → S[j]? = some b → a.own = true → b.own = true → σ[i]? = σ[j]? → i = j
  pin : ∀ i, i ∈ Pn → σ[i]? = some (some (pl i))
/-- H0 has grown by new things only -/
structure Gr (G H0 H1 : Hp) : Prop where
  ex : Ex H0 H1
  new : ∀ a, G a ≠ none → H1 a ≠ none → H0 a ≠ none
theorem Gr.refl (G H0 : Hp) : Gr G H0 H0 := ⟨Ex.refl _, fun _ _ h => h⟩
theorem Gr.trans {G A B C : Hp} (h : Gr G A B) (k : Gr G B C) : Gr G A C := ⟨h.ex.trans k.ex, fun a g c => h.new a g (k.new a g c)⟩
theorem Gr.upd {G H0 : Hp} {p : Addr} {o : HO} (g : G p = none) (h : H0 p = none) : Gr G H0 (upd H0 p o) := ⟨Ex.new h, fun a ga hu => by
  by_cases e : a = p
  · rw [e] at ga; exact absurd g ga
  · rwa [upd_ne e] at hu⟩

section
variable {K : PySem.W.Frag} {G H0 H H1 H2 : Hp} {σ : L2.St} {S : List M} {Pn : List Nat} {pl : Nat → V}
theorem Ro.mono0 (e : Ex H0 H1) {d : D} {l : Addr} (h : Ro K H0 H d l) : Ro K H1 H d l := by
  cases d <;> simp only [Ro] at * <;> first
    | exact h
    | (obtain ⟨vs, h1, h2⟩ := h; exact ⟨vs, h1, Rps.mono e _ _ h2⟩)
    | (obtain ⟨vs, h1, hl, h2⟩ := h; exact ⟨vs, h1, hl, Rps.mono e _ _ h2⟩)
    | (obtain ⟨dx, vs, h1, hl, h2⟩ := h; exact ⟨dx, vs, h1, hl, Rps.mono e _ _ h2⟩)
/-- the object is read alone -/
theorem Ro.at {d : D} {l : Addr} (h : Ro K H0 H d l) (e : H1 l = H l) : Ro K H0 H1 d l := by
  cases d <;> simp only [Ro] at * <;> first
    | exact h
    | (rw [e]; exact h)
theorem Ro.some {d : D} {l : Addr} (h : Ro K H0 H d l) : H l ≠ none := by
  cases d <;> simp only [Ro] at h <;> first
    | exact h.elim
    | (obtain ⟨vs, h1, _⟩ := h; rw [h1]; exact fun q => nomatch q)
    | (obtain ⟨dx, vs, h1, _⟩ := h; rw [h1]; exact fun q => nomatch q)
theorem Ro.mono {d : D} {l : Addr} (e : Ex H H1) (h : Ro K H0 H d l) : Ro K H0 H1 d l := by
  refine h.at ?_
  cases q : H l with
  | none => exact absurd q h.some
  | some o => exact e _ _ q
theorem Ro.rp {d : D} {l : Addr} (h : Ro K H0 H d l) (e : Ex H0 H) : Rp K H d (.ref l) := by
  cases d <;> simp only [Ro] at h <;> first
    | exact h.elim
    | (obtain ⟨vs, h1, h2⟩ := h; exact ⟨l, vs, rfl, h1, Rps.mono e _ _ h2⟩)
    | (obtain ⟨vs, h1, hl, h2⟩ := h; exact ⟨l, vs, rfl, h1, hl, Rps.mono e _ _ h2⟩)
    | (obtain ⟨dx, vs, h1, hl, h2⟩ := h; exact ⟨l, dx, vs, rfl, h1, hl, Rps.mono e _ _ h2⟩)
theorem Rb.rp {d : D} {v : V} (h : Rb K H0 H d v) (e : Ex H0 H) : Rp K H d v := by
  rcases h with h | ⟨l, rfl, h⟩
  · exact Rp.mono e _ _ h
  · exact h.rp e
theorem Rb.mono {d : D} {v : V} (h : Rb K H0 H d v) (e0 : Ex H0 H1) (e : Ex H H2) : Rb K H1 H2 d v := by
  rcases h with h | ⟨l, rfl, h⟩
  · exact .inl (Rp.mono e0 _ _ h)
  · exact .inr ⟨l, rfl, (h.mono0 e0).mono e⟩
theorem Rm.mono0 (g : Gr G H0 H1) {m : M} {ov : Option V} (hn : ∀ l, ov = Option.some (V.ref l) → m.own = true → H0 l = none → H1 l = none) (h : Rm K G H0 H m ov) : Rm K G H1 H m ov := by
  cases m with
  | no => trivial
  | d x => obtain ⟨v, h1, h2⟩ := h; exact ⟨v, h1, Rp.mono g.ex _ _ h2⟩
  | b x => obtain ⟨l, h1, h2⟩ := h; exact ⟨l, h1, h2.mono0 g.ex⟩
  | q ns => exact h
  | o x => obtain ⟨l, h1, h2, h3, h4⟩ := h; exact ⟨l, h1, hn l h1 rfl h2, h3, h4.mono0 g.ex⟩
  | e φ => obtain ⟨l, x, hx, h1, h2, h3, h4⟩ := h; exact ⟨l, x, hx, h1, hn l h1 rfl h2, h3, h4.mono0 g.ex⟩
theorem Rm.mono (e : Ex H H1) {m : M} {ov : Option V} (h : Rm K G H0 H m ov) : Rm K G H0 H1 m ov := by
  cases m with
  | no => trivial
  | d x => exact h
  | b x => exact h
  | q ns => exact h
  | o x => obtain ⟨l, h1, h2, h3, h4⟩ := h; exact ⟨l, h1, h2, h3, h4.mono e⟩
  | e φ => obtain ⟨l, x, hx, h1, h2, h3, h4⟩ := h; exact ⟨l, x, hx, h1, h2, h3, h4.mono e⟩
/-- the address of an own object -/
theorem Rm.addr {m : M} {ov : Option V} (h : Rm K G H0 H m ov) (ho : m.own = true) : ∃ l, ov = Option.some (V.ref l) ∧ H0 l = none ∧ G l = none ∧ H l ≠ none := by
  cases m with
  | no => cases ho
  | d x => cases ho
  | b x => cases ho
  | q ns => cases ho
  | o x => obtain ⟨l, h1, h2, h3, h4⟩ := h; exact ⟨l, h1, h2, h3, h4.some⟩
  | e φ => obtain ⟨l, x, hx, h1, h2, h3, h4⟩ := h; exact ⟨l, h1, h2, h3, h4.some⟩
/-- the heap has grown -/
theorem Rs.grow (R : Rs K Pn pl G H0 H σ S) (e : Ex H H1) : Rs K Pn pl G H0 H1 σ S where
  len := R.len
  e0 := R.e0.trans e
  eg := R.eg.trans e
  sl := fun i m h => by obtain ⟨ov, h1, h2⟩ := R.sl i m h; exact ⟨ov, h1, h2.mono e⟩
  ap := R.ap
  pin := R.pin
/-- a new thing for good -/
theorem Rs.frz (R : Rs K Pn pl G H0 H σ S) {p : Addr} {o : HO} (hp : H p = Option.some o) (hg : G p = none) (h0 : H0 p = none) (hs : ∀ (i : Nat) (m : M), S[i]? = Option.some m → m.own = true → σ[i]? ≠ Option.some (Option.some (V.ref p))) :
    Gr G H0 (upd H0 p o) ∧ Rs K Pn pl G (upd H0 p o) H σ S := by
  have g : Gr G H0 (upd H0 p o) := Gr.upd hg h0
  refine ⟨g, R.len, fun a u e => ?_, R.eg, fun i m h => ?_, R.ap, R.pin⟩
  · by_cases q : a = p
    · rw [q, upd_same] at e; cases e; rw [q]; exact hp
    · rw [upd_ne q] at e; exact R.e0 a u e
  · obtain ⟨ov, h1, h2⟩ := R.sl i m h
    refine ⟨ov, h1, h2.mono0 g fun l e ho hn => ?_⟩
    have q : l ≠ p := fun z => hs i m h ho (by rw [h1, e, z])
    rw [upd_ne q]; exact hn
theorem Rs.get (R : Rs K Pn pl G H0 H σ S) {i : Nat} {m : M} (h : S[i]? = Option.some m) : ∃ ov, σ[i]? = Option.some ov ∧ Rm K G H0 H m ov := R.sl i m h
/-- a new object is laid, for good -/
theorem Rs.lay (R : Rs K Pn pl G H0 H σ S) {p : Addr} {o : HO} (hp : H p = none) : Gr G H0 (upd H0 p o) ∧ Ex H (upd H p o) ∧ Rs K Pn pl G (upd H0 p o) (upd H p o) σ S := by
  have e : Ex H (L2.upd H p o) := Ex.new hp
  have h0 : H0 p = none := fresh_back R.e0 hp
  have hg : G p = none := fresh_back R.eg hp
  have R1 := R.grow e
  obtain ⟨g, R2⟩ := R1.frz (p := p) (o := o) upd_same hg h0 fun i m h ho z => by
    obtain ⟨ov, h1, h2⟩ := R.sl i m h
    obtain ⟨l, e1, _, _, e4⟩ := h2.addr ho
    rw [h1] at z
    have z2 := Option.some.inj z
    rw [e1] at z2
    have z3 := V.ref.inj (Option.some.inj z2)
    rw [z3] at e4
    exact e4 hp
  exact ⟨g, e, R2⟩
/-- a new object is laid, of one's own -/
theorem Rs.own_new (R : Rs K Pn pl G H0 H σ S) {p : Addr} (hp : H p = none) : H0 p = none ∧ G p = none ∧ ∀ (i : Nat) (m : M), S[i]? = Option.some m → m.own = true → σ[i]? ≠ Option.some (Option.some (V.ref p)) :=
  ⟨fresh_back R.e0 hp, fresh_back R.eg hp, fun i m h ho z => by
    obtain ⟨ov, h1, h2⟩ := R.sl i m h
    obtain ⟨l, e1, _, _, e4⟩ := h2.addr ho
    rw [h1] at z
    have z2 := Option.some.inj z
    rw [e1] at z2
    have z3 := V.ref.inj (Option.some.inj z2)
    rw [z3] at e4
    exact e4 hp⟩
/-- a slot is given data -/
theorem Rs.setd (R : Rs K Pn pl G H0 H σ S) {i : Nat} {x : D} {v : V} (hv : Rp K H0 x v) (hi : i ∉ Pn) : Rs K Pn pl G H0 H (σ.set i (Option.some v)) (S.set i (.d x)) where
  len := by rw [List.length_set, List.length_set]; exact R.len
  e0 := R.e0
  eg := R.eg
  sl := fun j m h => by
    by_cases e : i = j
    · subst e
      have hl : i < S.length := by
        have := (List.getElem?_eq_some_iff.mp h).1
        rwa [List.length_set] at this
      rw [List.getElem?_set_self hl] at h
      cases h
      exact ⟨_, List.getElem?_set_self (by rw [R.len]; exact hl), v, rfl, hv⟩
    · rw [List.getElem?_set_ne e] at h
      rw [List.getElem?_set_ne e]
      exact R.sl j m h
  ap := fun a b m n ha hb hm hn hs => by
    have ne : ∀ c q, (S.set i (.d x))[c]? = Option.some q → q.own = true → i ≠ c := fun c q hc hq z => by
      subst z
      have hl : i < S.length := by
        have := (List.getElem?_eq_some_iff.mp hc).1
        rwa [List.length_set] at this
      rw [List.getElem?_set_self hl] at hc
      cases hc
      cases hq
    have n1 := ne a m ha hm
    have n2 := ne b n hb hn
    rw [List.getElem?_set_ne n1] at ha
    rw [List.getElem?_set_ne n2] at hb
    rw [List.getElem?_set_ne n1, List.getElem?_set_ne n2] at hs
    exact R.ap a b m n ha hb hm hn hs
  pin := fun j hj => by
    have e : i ≠ j := fun z => hi (by rw [z]; exact hj)
    rw [List.getElem?_set_ne e]
    exact R.pin j hj
/-- a slot is forgotten -/
theorem Rs.setn (R : Rs K Pn pl G H0 H σ S) {i : Nat} {ov : Option V} (hi : i ∉ Pn) : Rs K Pn pl G H0 H (σ.set i ov) (S.set i .no) where
  len := by rw [List.length_set, List.length_set]; exact R.len
  e0 := R.e0
  eg := R.eg
  sl := fun j m h => by
    by_cases e : i = j
    · subst e
      have hl : i < S.length := by
        have := (List.getElem?_eq_some_iff.mp h).1
        rwa [List.length_set] at this
      rw [List.getElem?_set_self hl] at h
      cases h
      exact ⟨_, List.getElem?_set_self (by rw [R.len]; exact hl), trivial⟩
    · rw [List.getElem?_set_ne e] at h
      rw [List.getElem?_set_ne e]
      exact R.sl j m h
  ap := fun a b m n ha hb hm hn hs => by
    have ne : ∀ c q, (S.set i .no)[c]? = Option.some q → q.own = true → i ≠ c := fun c q hc hq z => by
      subst z
      have hl : i < S.length := by
        have := (List.getElem?_eq_some_iff.mp hc).1
        rwa [List.length_set] at this
      rw [List.getElem?_set_self hl] at hc
      cases hc
      cases hq
    have n1 := ne a m ha hm
    have n2 := ne b n hb hn
    rw [List.getElem?_set_ne n1] at ha
    rw [List.getElem?_set_ne n2] at hb
    rw [List.getElem?_set_ne n1, List.getElem?_set_ne n2] at hs
    exact R.ap a b m n ha hb hm hn hs
  pin := fun j hj => by
    have e : i ≠ j := fun z => hi (by rw [z]; exact hj)
    rw [List.getElem?_set_ne e]
    exact R.pin j hj
/-- a slot is given an own object -/
theorem Rs.seto (R : Rs K Pn pl G H0 H σ S) {i : Nat} {x : D} {p : Addr} (h0 : H0 p = none) (hg : G p = none) (ho : Ro K H0 H x p) (hf : ∀ (i : Nat) (m : M), S[i]? = Option.some m → m.own = true → σ[i]? ≠ Option.some (Option.some (V.ref p))) (hi : i ∉ Pn) :
    Rs K Pn pl G H0 H (σ.set i (Option.some (.ref p))) (S.set i (.o x)) where
  len := by rw [List.length_set, List.length_set]; exact R.len
  e0 := R.e0
  eg := R.eg
  sl := fun j m h => by
    by_cases e : i = j
    · subst e
      have hl : i < S.length := by
        have := (List.getElem?_eq_some_iff.mp h).1
        rwa [List.length_set] at this
      rw [List.getElem?_set_self hl] at h
      cases h
      exact ⟨_, List.getElem?_set_self (by rw [R.len]; exact hl), p, rfl, h0, hg, ho⟩
    · rw [List.getElem?_set_ne e] at h
      rw [List.getElem?_set_ne e]
      exact R.sl j m h
  ap := fun a b m n ha hb hm hn hs => by
    have hlen : ∀ c q, (S.set i (.o x))[c]? = Option.some q → c < S.length := fun c q hc => by
      have := (List.getElem?_eq_some_iff.mp hc).1
      rwa [List.length_set] at this
    by_cases n1 : i = a
    · by_cases n2 : i = b
      · rw [← n1, ← n2]
      · subst n1
        rw [List.getElem?_set_ne n2] at hb hs
        rw [List.getElem?_set_self (by rw [R.len]; exact hlen _ _ ha)] at hs
        exact absurd hs.symm (hf b n hb hn)
    · by_cases n2 : i = b
      · subst n2
        rw [List.getElem?_set_ne n1] at ha hs
        rw [List.getElem?_set_self (by rw [R.len]; exact hlen _ _ hb)] at hs
        exact absurd hs (hf a m ha hm)
      · rw [List.getElem?_set_ne n1] at ha
        rw [List.getElem?_set_ne n2] at hb
        rw [List.getElem?_set_ne n1, List.getElem?_set_ne n2] at hs
        exact R.ap a b m n ha hb hm hn hs
  pin := fun j hj => by
    have e : i ≠ j := fun z => hi (by rw [z]; exact hj)
    rw [List.getElem?_set_ne e]
    exact R.pin j hj
/-- an own object is changed -/
theorem Rs.write (R : Rs K Pn pl G H0 H σ S) {i : Nat} {m : M} {x : D} {l : Addr} {o : HO} (hi : S[i]? = Option.some m) (hm : m.own = true) (hl : σ[i]? = Option.some (Option.some (V.ref l))) (ho : Ro K H0 (upd H l o) x l) :
    Rs K Pn pl G H0 (upd H l o) σ (S.set i (.o x)) := by
  obtain ⟨ov, h1, h2⟩ := R.sl i m hi
  obtain ⟨l', e1, e2, e3, e4⟩ := h2.addr hm
  rw [hl] at h1
  have q : l' = l := by
    have z := Option.some.inj h1
    rw [e1] at z
    exact (V.ref.inj (Option.some.inj z)).symm
  subst q
  refine ⟨by rw [List.length_set]; exact R.len, fun a u ha => ?_, fun a u ha => ?_, fun j n h => ?_, fun a b m' n' ha hb hma hnb hs => ?_, R.pin⟩
  · rw [upd_ne (ne_of_none ha e2)]; exact R.e0 a u ha
  · rw [upd_ne (ne_of_none ha e3)]; exact R.eg a u ha
  · by_cases e : i = j
    · subst e
      have hlt : i < S.length := (List.getElem?_eq_some_iff.mp hi).1
      rw [List.getElem?_set_self hlt] at h
      cases h
      exact ⟨_, hl, l', rfl, e2, e3, ho⟩
    · rw [List.getElem?_set_ne e] at h
      obtain ⟨ov', h3, h4⟩ := R.sl j n h
      refine ⟨ov', h3, ?_⟩
      cases n with
      | no => trivial
      | d y => exact h4
      | b y => exact h4
      | q ns => exact h4
      | o y =>
        obtain ⟨k, k1, k2, k3, k4⟩ := h4
        have nk : k ≠ l' := fun z => e (R.ap i j m _ hi h hm rfl (by rw [hl, h3, k1, z]))
        exact ⟨k, k1, k2, k3, k4.at (upd_ne nk)⟩
      | e φ =>
        obtain ⟨k, y, ky, k1, k2, k3, k4⟩ := h4
        have nk : k ≠ l' := fun z => e (R.ap i j m _ hi h hm rfl (by rw [hl, h3, k1, z]))
        exact ⟨k, y, ky, k1, k2, k3, k4.at (upd_ne nk)⟩
  · have at_ : ∀ (c : Nat) (q : M), (S.set i (.o x))[c]? = Option.some q → q.own = true → ∃ q' : M, S[c]? = Option.some q' ∧ q'.own = true := fun c q hc hq => by
      by_cases z : i = c
      · subst z; exact ⟨m, hi, hm⟩
      · rw [List.getElem?_set_ne z] at hc; exact ⟨q, hc, hq⟩
    obtain ⟨a', x1, x2⟩ := at_ a m' ha hma
    obtain ⟨b', y1, y2⟩ := at_ b n' hb hnb
    exact R.ap a b a' b' x1 y1 x2 y2 hs
end
end Dl
/-! Judgements over slots: expressions, tests, arguments, values. -/
namespace Dl
open PySem L2 Evl

/-- own objects stand elsewhere than p -/
def Apart (σ : L2.St) (S : List M) (p : Addr) : Prop := ∀ (i : Nat) (m : M), S[i]? = some m → m.own = true → σ[i]? ≠ some (some (V.ref p))

section
variable (K : PySem.W.Frag)
/-- an expression gives data; R is wished of them and of the slots behind -/
def EvN (te : TE) (S : List M) (R : D → List M → Prop) : Prop := ∀ Pn pl G H0 H σ, Rs K Pn pl G H0 H σ S → ∀ Q : VK,
  (∀ d S' v H0' H', R d S' → Gr G H0 H0' → Rs K Pn pl G H0' H' σ S' → Rp K H0' d v → Q v H') → te σ H Q
/-- an expression gives a new object of one's own -/
def EvO (te : TE) (S : List M) (R : D → List M → Prop) : Prop := ∀ Pn pl G H0 H σ, Rs K Pn pl G H0 H σ S → ∀ Q : VK,
  (∀ d S' p H0' H', R d S' → Gr G H0 H0' → Rs K Pn pl G H0' H' σ S' → H0' p = none → G p = none → Apart σ S' p → Ro K H0' H' d p → Q (.ref p) H') → te σ H Q
/-- an expression that changes nothing: what it gives may be read as d; is d for good; is a new object d -/
def EvB (te : TE) (S : List M) (d : D) : Prop := ∀ Pn pl G H0 H σ, Rs K Pn pl G H0 H σ S → ∀ Q : VK,
  (∀ v H0' H', Gr G H0 H0' → Ex H H' → Rs K Pn pl G H0' H' σ S → Rb K H0' H' d v → Q v H') → te σ H Q
def EvP (te : TE) (S : List M) (d : D) : Prop := ∀ Pn pl G H0 H σ, Rs K Pn pl G H0 H σ S → ∀ Q : VK,
  (∀ v H0' H', Gr G H0 H0' → Ex H H' → Rs K Pn pl G H0' H' σ S → Rp K H0' d v → Q v H') → te σ H Q
def EvF (te : TE) (S : List M) (d : D) : Prop := ∀ Pn pl G H0 H σ, Rs K Pn pl G H0 H σ S → ∀ Q : VK,
  (∀ p H0' H', Gr G H0 H0' → Ex H H' → Rs K Pn pl G H0' H' σ S → H0' p = none → G p = none → Apart σ S p → Ro K H0' H' d p → Q (.ref p) H') → te σ H Q
/-- tests -/
def TpN (tt : TT) (S : List M) (R : Bool → List M → Prop) : Prop := ∀ Pn pl G H0 H σ, Rs K Pn pl G H0 H σ S → ∀ Q : Bool → Hp → Prop,
  (∀ b S' H0' H', R b S' → Gr G H0 H0' → Rs K Pn pl G H0' H' σ S' → Q b H') → tt σ H Q
def TpP (tt : TT) (S : List M) (b : Bool) : Prop := ∀ Pn pl G H0 H σ, Rs K Pn pl G H0 H σ S → ∀ Q : Bool → Hp → Prop,
  (∀ H0' H', Gr G H0 H0' → Ex H H' → Rs K Pn pl G H0' H' σ S → Q b H') → tt σ H Q
/-- rules by values -/
def V1P (r : V → Hp → VK → Prop) (x d : D) : Prop := ∀ Pn pl G H0 H σ S v, Rs K Pn pl G H0 H σ S → Rb K H0 H x v → ∀ Q : VK,
  (∀ w H0' H', Gr G H0 H0' → Ex H H' → Rs K Pn pl G H0' H' σ S → Rp K H0' d w → Q w H') → r v H Q
def V1F (r : V → Hp → VK → Prop) (x d : D) : Prop := ∀ Pn pl G H0 H σ S v, Rs K Pn pl G H0 H σ S → Rb K H0 H x v → ∀ Q : VK,
  (∀ p H0' H', Gr G H0 H0' → Ex H H' → Rs K Pn pl G H0' H' σ S → H0' p = none → G p = none → Apart σ S p → Ro K H0' H' d p → Q (.ref p) H') → r v H Q
def V2P (r : R2) (x y d : D) : Prop := ∀ Pn pl G H0 H σ S v w, Rs K Pn pl G H0 H σ S → Rb K H0 H x v → Rb K H0 H y w → ∀ Q : VK,
  (∀ z H0' H', Gr G H0 H0' → Ex H H' → Rs K Pn pl G H0' H' σ S → Rp K H0' d z → Q z H') → r v w H Q
def V2F (r : R2) (x y d : D) : Prop := ∀ Pn pl G H0 H σ S v w, Rs K Pn pl G H0 H σ S → Rb K H0 H x v → Rb K H0 H y w → ∀ Q : VK,
  (∀ p H0' H', Gr G H0 H0' → Ex H H' → Rs K Pn pl G H0' H' σ S → H0' p = none → G p = none → Apart σ S p → Ro K H0' H' d p → Q (.ref p) H') → r v w H Q
end

section
variable {K : PySem.W.Frag} {te ta tb tc : TE} {tt tu : TT} {S : List M} {d x y z : D} {R : D → List M → Prop} {i : Nat}
theorem EvP.n (h : EvP K te S d) (r : R d S) : EvN K te S R := fun Pn pl G H0 H σ Rr Q q => h Pn pl G H0 H σ Rr Q fun v H0' H' g e R' p => q d S v H0' H' r g R' p
theorem EvF.o (h : EvF K te S d) (r : R d S) : EvO K te S R := fun Pn pl G H0 H σ Rr Q q => h Pn pl G H0 H σ Rr Q fun p H0' H' g e R' n0 ng ap o => q d S p H0' H' r g R' n0 ng ap o
theorem EvP.b (h : EvP K te S d) : EvB K te S d := fun Pn pl G H0 H σ Rr Q q => h Pn pl G H0 H σ Rr Q fun v H0' H' g e R' p => q v H0' H' g e R' (.inl p)
theorem ro_frz {G H0 H : Hp} {σ : L2.St} {Pn : List Nat} {pl : Nat → V} {p : Addr} (Rr : Rs K Pn pl G H0 H σ S) (h0 : H0 p = none) (hg : G p = none) (ap : Apart σ S p) (o : Ro K H0 H d p) :
    ∃ H1, Gr G H0 H1 ∧ Rs K Pn pl G H1 H σ S ∧ Rp K H1 d (.ref p) := by
  have key : ∀ u, H p = some u → ∃ H1, Gr G H0 H1 ∧ Rs K Pn pl G H1 H σ S ∧ H1 p = some u := fun u hu => by
    obtain ⟨g, R'⟩ := Rr.frz hu hg h0 ap
    exact ⟨_, g, R', upd_same⟩
  cases d <;> simp only [Ro] at o <;> first
    | exact o.elim
    | (obtain ⟨vs, h1, h2⟩ := o; obtain ⟨H1, g, R', e⟩ := key _ h1; exact ⟨H1, g, R', p, vs, rfl, e, Rps.mono g.ex _ _ h2⟩)
    | (obtain ⟨vs, h1, hl, h2⟩ := o; obtain ⟨H1, g, R', e⟩ := key _ h1; exact ⟨H1, g, R', p, vs, rfl, e, hl, Rps.mono g.ex _ _ h2⟩)
    | (obtain ⟨dx, vs, h1, hl, h2⟩ := o; obtain ⟨H1, g, R', e⟩ := key _ h1; exact ⟨H1, g, R', p, dx, vs, rfl, e, hl, Rps.mono g.ex _ _ h2⟩)
theorem EvO.n (h : EvO K te S R) : EvN K te S R := fun Pn pl G H0 H σ Rr Q q => h Pn pl G H0 H σ Rr Q fun d S' p H0' H' r g R' n0 ng ap o => by
  obtain ⟨H1, g1, R1, rp⟩ := ro_frz R' n0 ng ap o
  exact q d S' _ H1 H' r (g.trans g1) R1 rp
theorem EvF.p (h : EvF K te S d) : EvP K te S d := fun Pn pl G H0 H σ Rr Q q => h Pn pl G H0 H σ Rr Q fun p H0' H' g e R' n0 ng ap o => by
  obtain ⟨H1, g1, R1, rp⟩ := ro_frz R' n0 ng ap o
  exact q _ H1 H' (g.trans g1) e R1 rp
theorem EvF.b (h : EvF K te S d) : EvB K te S d := h.p.b
theorem EvN.imp {R' : D → List M → Prop} (h : EvN K te S R) (k : ∀ d S', R d S' → R' d S') : EvN K te S R' := fun Pn pl G H0 H σ Rr Q q => h Pn pl G H0 H σ Rr Q fun d S' v H0' H' r g R' p => q d S' v H0' H' (k _ _ r) g R' p
theorem EvP.is (h : EvP K te S d) (e : d = x) : EvP K te S x := e ▸ h
theorem EvF.is (h : EvF K te S d) (e : d = x) : EvF K te S x := e ▸ h
theorem EvB.is (h : EvB K te S d) (e : d = x) : EvB K te S x := e ▸ h
theorem TpP.n {b : Bool} {R : Bool → List M → Prop} (h : TpP K tt S b) (r : R b S) : TpN K tt S R := fun Pn pl G H0 H σ Rr Q q => h Pn pl G H0 H σ Rr Q fun H0' H' g e R' => q b S H0' H' r g R'
theorem TpP.is {b c : Bool} (h : TpP K tt S b) (e : b = c) : TpP K tt S c := e ▸ h
/-! ### names and constants -/
theorem evp_var (h : S[i]? = some (.d x)) : EvP K (tVar i) S x := fun Pn pl G H0 H σ Rr Q q => by
  obtain ⟨ov, h1, v, rfl, h2⟩ := Rr.get h
  exact ⟨v, h1, q v H0 H (Gr.refl _ _) (Ex.refl _) Rr h2⟩
theorem evb_var (h : S[i]? = some (.d x)) : EvB K (tVar i) S x := (evp_var h).b
theorem evb_varo (h : S[i]? = some (.o x)) : EvB K (tVar i) S x := fun Pn pl G H0 H σ Rr Q q => by
  obtain ⟨ov, h1, l, rfl, _, _, h2⟩ := Rr.get h
  exact ⟨_, h1, q _ H0 H (Gr.refl _ _) (Ex.refl _) Rr (.inr ⟨l, rfl, h2⟩)⟩
theorem evb_varb (h : S[i]? = some (.b x)) : EvB K (tVar i) S x := fun Pn pl G H0 H σ Rr Q q => by
  obtain ⟨ov, h1, l, rfl, h2⟩ := Rr.get h
  exact ⟨_, h1, q _ H0 H (Gr.refl _ _) (Ex.refl _) Rr (.inr ⟨l, rfl, h2.mono Rr.eg⟩)⟩
theorem evp_c {v : V} (h : ∀ H, Rp K H d v) : EvP K (tC v) S d := fun Pn pl G H0 H σ Rr Q q => q v H0 H (Gr.refl _ _) (Ex.refl _) Rr (h _)
theorem evp_int {k : Int} : EvP K (tC (.int k)) S (.int k) := evp_c fun _ => rfl
theorem evp_bl {k : Bool} : EvP K (tC (.bl k)) S (.bl k) := evp_c fun _ => rfl
theorem evp_str {k : PySem.Str} : EvP K (tC (.str k)) S (.str k) := evp_c fun _ => rfl
theorem evp_non : EvP K (tC .non) S .non := evp_c fun _ => rfl
/-! ### operators by values -/
theorem evp_op {r : R2} (ha : EvB K ta S x) (hb : EvB K tb S y) (hr : V2P K r x y d) : EvP K (tOp r ta tb) S d := fun Pn pl G H0 H σ Rr Q q =>
  ha Pn pl G H0 H σ Rr _ fun v H01 H1 g1 e1 R1 p1 => hb Pn pl G H01 H1 σ R1 _ fun w H02 H2 g2 e2 R2 p2 =>
    hr Pn pl G H02 H2 σ S v w R2 (p1.mono g2.ex e2) p2 Q fun z H03 H3 g3 e3 R3 p3 => q z H03 H3 ((g1.trans g2).trans g3) ((e1.trans e2).trans e3) R3 p3
theorem evf_op {r : R2} (ha : EvB K ta S x) (hb : EvB K tb S y) (hr : V2F K r x y d) : EvF K (tOp r ta tb) S d := fun Pn pl G H0 H σ Rr Q q =>
  ha Pn pl G H0 H σ Rr _ fun v H01 H1 g1 e1 R1 p1 => hb Pn pl G H01 H1 σ R1 _ fun w H02 H2 g2 e2 R2 p2 =>
    hr Pn pl G H02 H2 σ S v w R2 (p1.mono g2.ex e2) p2 Q fun z H03 H3 g3 e3 R3 p3 => q z H03 H3 ((g1.trans g2).trans g3) ((e1.trans e2).trans e3) R3 p3
theorem evn_op {r : R2} (ha : EvN K ta S fun x S1 => EvN K tb S1 fun y S2 => ∃ d, V2P K r x y d ∧ R d S2) : EvN K (tOp r ta tb) S R := fun Pn pl G H0 H σ Rr Q q =>
  ha Pn pl G H0 H σ Rr _ fun x S1 v H01 H1 hb g1 R1 p1 => hb Pn pl G H01 H1 σ R1 _ fun y S2 w H02 H2 ⟨d, hr, r2⟩ g2 R2 p2 =>
    hr Pn pl G H02 H2 σ S2 v w R2 (.inl (Rp.mono g2.ex _ _ p1)) (.inl p2) Q fun z H03 H3 g3 e3 R3 p3 => q d S2 z H03 H3 r2 ((g1.trans g2).trans g3) R3 p3
/-- what a slot may be read as -/
def M.rd : M → D → Prop
  | .d x, y => x = y
  | .b x, y => x = y
  | .o x, y => x = y
  | _, _ => False
theorem Rs.read {G H0 H : Hp} {σ : L2.St} {Pn : List Nat} {pl : Nat → V} {m : M} (Rr : Rs K Pn pl G H0 H σ S) (h : S[i]? = some m) (hr : m.rd x) : ∃ v, σ[i]? = some (some v) ∧ Rb K H0 H x v := by
  obtain ⟨ov, h1, h2⟩ := Rr.get h
  cases m with
  | no => exact hr.elim
  | e φ => exact hr.elim
  | q ns => exact hr.elim
  | d y => cases (show y = x from hr); obtain ⟨v, rfl, h2⟩ := h2; exact ⟨v, h1, .inl h2⟩
  | b y => cases (show y = x from hr); obtain ⟨l, rfl, h2⟩ := h2; exact ⟨_, h1, .inr ⟨l, rfl, h2.mono Rr.eg⟩⟩
  | o y => cases (show y = x from hr); obtain ⟨l, rfl, _, _, h2⟩ := h2; exact ⟨_, h1, .inr ⟨l, rfl, h2⟩⟩
theorem evb_rd {m : M} (h : S[i]? = some m) (hr : m.rd x) : EvB K (tVar i) S x := fun Pn pl G H0 H σ Rr Q q => by
  obtain ⟨v, h1, h2⟩ := Rr.read h hr
  exact ⟨v, h1, q v H0 H (Gr.refl _ _) (Ex.refl _) Rr h2⟩
/-- the left one a name, the right one may change things -/
theorem evn_opv {r : R2} {m : M} (h0 : S[i]? = some m) (hr0 : m.rd z) (hb : EvN K tb S fun y S2 => ∃ x m2 d, S2[i]? = some m2 ∧ m2.rd x ∧ V2P K r x y d ∧ R d S2) : EvN K (tOp r (tVar i) tb) S R := fun Pn pl G H0 H σ Rr Q q => by
  obtain ⟨v, h1, _⟩ := Rr.read h0 hr0
  refine ⟨v, h1, hb Pn pl G H0 H σ Rr _ fun y S2 w H02 H2 ⟨x, m2, d, e1, e2, hr, r2⟩ g2 R2 p2 => ?_⟩
  obtain ⟨v', h1', p1⟩ := R2.read e1 e2
  rw [h1] at h1'
  cases h1'
  exact hr Pn pl G H02 H2 σ S2 v w R2 p1 (.inl p2) Q fun z H03 H3 g3 e3 R3 p3 => q d S2 z H03 H3 r2 (g2.trans g3) R3 p3
theorem evp_un {r : V → Hp → VK → Prop} (ha : EvB K ta S x) (hr : V1P K r x d) : EvP K (tUn r ta) S d := fun Pn pl G H0 H σ Rr Q q =>
  ha Pn pl G H0 H σ Rr _ fun v H01 H1 g1 e1 R1 p1 => hr Pn pl G H01 H1 σ S v R1 p1 Q fun z H03 H3 g3 e3 R3 p3 => q z H03 H3 (g1.trans g3) (e1.trans e3) R3 p3
theorem evp_then {r : V → Hp → VK → Prop} (ha : EvB K ta S x) (hr : V1P K r x d) : EvP K (tThen ta r) S d := evp_un ha hr
theorem evn_then {r : V → Hp → VK → Prop} (ha : EvN K ta S fun x S1 => ∃ d, V1P K r x d ∧ R d S1) : EvN K (tThen ta r) S R := fun Pn pl G H0 H σ Rr Q q =>
  ha Pn pl G H0 H σ Rr _ fun x S1 v H01 H1 ⟨d, hr, r2⟩ g1 R1 p1 => hr Pn pl G H01 H1 σ S1 v R1 (.inl p1) Q fun z H03 H3 g3 e3 R3 p3 => q d S1 z H03 H3 r2 (g1.trans g3) R3 p3
/-! ### calls of built-ins, of one and two arguments -/
def r1 (r : List V → Hp → VK → Prop) : V → Hp → VK → Prop := fun v => r [v]
def r2 (r : List V → Hp → VK → Prop) : R2 := fun v w => r [v, w]
theorem evp_cb {r : List V → Hp → VK → Prop} (ha : EvB K ta S x) (hr : V1P K (r1 r) x d) : EvP K (tCB r (tCons ta tNil)) S d := evp_un (r := r1 r) ha hr
theorem evf_cb {r : List V → Hp → VK → Prop} (ha : EvB K ta S x) (hr : V1F K (r1 r) x d) : EvF K (tCB r (tCons ta tNil)) S d := fun Pn pl G H0 H σ Rr Q q =>
  ha Pn pl G H0 H σ Rr _ fun v H01 H1 g1 e1 R1 p1 => hr Pn pl G H01 H1 σ S v R1 p1 Q fun z H03 H3 g3 e3 R3 p3 => q z H03 H3 (g1.trans g3) (e1.trans e3) R3 p3
theorem evn_cb {r : List V → Hp → VK → Prop} (ha : EvN K ta S fun x S1 => ∃ d, V1P K (r1 r) x d ∧ R d S1) : EvN K (tCB r (tCons ta tNil)) S R := evn_then (r := r1 r) ha
theorem evp_cb2 {r : List V → Hp → VK → Prop} (ha : EvB K ta S x) (hb : EvB K tb S y) (hr : V2P K (r2 r) x y d) : EvP K (tCB r (tCons ta (tCons tb tNil))) S d := evp_op (r := r2 r) ha hb hr
theorem evn_cb2 {r : List V → Hp → VK → Prop} (ha : EvN K ta S fun x S1 => EvN K tb S1 fun y S2 => ∃ d, V2P K (r2 r) x y d ∧ R d S2) : EvN K (tCB r (tCons ta (tCons tb tNil))) S R := evn_op (r := r2 r) ha
/-! ### displays -/
/-- argument lists of data -/
def ApN (K : PySem.W.Frag) (ta : TA) (S : List M) (R : List D → List M → Prop) : Prop := ∀ Pn pl G H0 H σ, Rs K Pn pl G H0 H σ S → ∀ Q : List V → Hp → Prop,
  (∀ ds S' vs H0' H', R ds S' → Gr G H0 H0' → Rs K Pn pl G H0' H' σ S' → Rps K H0' ds vs → Q vs H') → ta σ H Q
def ApP (K : PySem.W.Frag) (ta : TA) (S : List M) (ds : List D) : Prop := ∀ Pn pl G H0 H σ, Rs K Pn pl G H0 H σ S → ∀ Q : List V → Hp → Prop,
  (∀ vs H0' H', Gr G H0 H0' → Ex H H' → Rs K Pn pl G H0' H' σ S → Rps K H0' ds vs → Q vs H') → ta σ H Q
theorem app_nil : ApP K tNil S [] := fun Pn pl G H0 H σ Rr Q q => q [] H0 H (Gr.refl _ _) (Ex.refl _) Rr rfl
theorem app_cons {ta : TE} {tr : TA} {ds : List D} (h : EvP K ta S d) (hr : ApP K tr S ds) : ApP K (tCons ta tr) S (d :: ds) := fun Pn pl G H0 H σ Rr Q q =>
  h Pn pl G H0 H σ Rr _ fun v H01 H1 g1 e1 R1 p1 => hr Pn pl G H01 H1 σ R1 _ fun vs H02 H2 g2 e2 R2 p2 => q (v :: vs) H02 H2 (g1.trans g2) (e1.trans e2) R2 ⟨v, vs, rfl, Rp.mono g2.ex _ _ p1, p2⟩
theorem apn_nil {R : List D → List M → Prop} (r : R [] S) : ApN K tNil S R := fun Pn pl G H0 H σ Rr Q q => q [] S [] H0 H r (Gr.refl _ _) Rr rfl
theorem apn_cons {ta : TE} {tr : TA} {R : List D → List M → Prop} (h : EvN K ta S fun d S1 => ApN K tr S1 fun ds S2 => R (d :: ds) S2) : ApN K (tCons ta tr) S R := fun Pn pl G H0 H σ Rr Q q =>
  h Pn pl G H0 H σ Rr _ fun d S1 v H01 H1 hr g1 R1 p1 => hr Pn pl G H01 H1 σ R1 _ fun ds S2 vs H02 H2 r g2 R2 p2 => q (d :: ds) S2 (v :: vs) H02 H2 r (g1.trans g2) R2 ⟨v, vs, rfl, Rp.mono g2.ex _ _ p1, p2⟩
theorem Rps.length {H : Hp} : ∀ {ds : List D} {vs : List V}, Rps K H ds vs → ds.length = vs.length
  | [], vs, h => by unfold Rps at h; rw [h]; rfl
  | d :: ds, vs, h => by
    unfold Rps at h
    obtain ⟨v, r, rfl, _, h3⟩ := h
    rw [List.length_cons, List.length_cons, Rps.length h3]
theorem evp_tup {ta : TA} {ds : List D} (h : ApP K ta S ds) (hl : ds.length ≤ 100000) : EvP K (tTup ta) S (.tup ds) := fun Pn pl G H0 H σ Rr Q q =>
  h Pn pl G H0 H σ Rr _ fun vs H01 H1 g1 e1 R1 p1 => ⟨sz_of (by rw [← p1.length]; exact hl), fun p hp => by
    obtain ⟨g2, e2, R2⟩ := R1.lay (o := .tup vs) hp
    exact q _ _ _ (g1.trans g2) (e1.trans e2) R2 ⟨p, vs, rfl, upd_same, Rps.mono g2.ex _ _ p1⟩⟩
theorem evn_tup {ta : TA} (h : ApN K ta S fun ds S1 => ds.length ≤ 100000 ∧ R (.tup ds) S1) : EvN K (tTup ta) S R := fun Pn pl G H0 H σ Rr Q q =>
  h Pn pl G H0 H σ Rr _ fun ds S1 vs H01 H1 ⟨hl, r⟩ g1 R1 p1 => ⟨sz_of (by rw [← p1.length]; exact hl), fun p hp => by
    obtain ⟨g2, e2, R2⟩ := R1.lay (o := .tup vs) hp
    exact q _ _ _ _ _ r (g1.trans g2) R2 ⟨p, vs, rfl, upd_same, Rps.mono g2.ex _ _ p1⟩⟩
theorem Rs.new_own {G H0 H : Hp} {σ : L2.St} {Pn : List Nat} {pl : Nat → V} {p : Addr} {o : HO} (Rr : Rs K Pn pl G H0 H σ S) (hp : H p = none) : Rs K Pn pl G H0 (upd H p o) σ S ∧ H0 p = none ∧ G p = none ∧ Apart σ S p ∧ Ex H (upd H p o) := by
  obtain ⟨a, b, c⟩ := Rr.own_new hp
  exact ⟨Rr.grow (Ex.new hp), a, b, c, Ex.new hp⟩
theorem evf_lst {ta : TA} {ds : List D} (h : ApP K ta S ds) (hl : ds.length ≤ 100000) : EvF K (tLst ta) S (.lst ds) := fun Pn pl G H0 H σ Rr Q q =>
  h Pn pl G H0 H σ Rr _ fun vs H01 H1 g1 e1 R1 p1 => ⟨sz_of (by rw [← p1.length]; exact hl), fun p hp => by
    obtain ⟨R2, a, b, c, e2⟩ := R1.new_own (o := .lst vs) hp
    exact q p H01 _ g1 (e1.trans e2) R2 a b c ⟨vs, upd_same, p1⟩⟩
theorem evo_lst {ta : TA} (h : ApN K ta S fun ds S1 => ds.length ≤ 100000 ∧ R (.lst ds) S1) : EvO K (tLst ta) S R := fun Pn pl G H0 H σ Rr Q q =>
  h Pn pl G H0 H σ Rr _ fun ds S1 vs H01 H1 ⟨hl, r⟩ g1 R1 p1 => ⟨sz_of (by rw [← p1.length]; exact hl), fun p hp => by
    obtain ⟨R2, a, b, c, e2⟩ := R1.new_own (o := .lst vs) hp
    exact q _ S1 p H01 _ r g1 R2 a b c ⟨vs, upd_same, p1⟩⟩
theorem evf_dnewK : EvF K tDNewK S (.dk [] []) := fun Pn pl G H0 H σ Rr Q q p hp => by
  obtain ⟨R2, a, b, c, e2⟩ := Rr.new_own (o := .dK []) hp
  exact q p H0 _ (Gr.refl _ _) e2 R2 a b c ⟨[], upd_same, rfl, rfl⟩
theorem evf_dnewT : EvF K tDNewT S (.dt [] []) := fun Pn pl G H0 H σ Rr Q q p hp => by
  obtain ⟨R2, a, b, c, e2⟩ := Rr.new_own (o := .dT []) hp
  exact q p H0 _ (Gr.refl _ _) e2 R2 a b c ⟨[], upd_same, rfl, rfl⟩
/-! ### tests -/
theorem tpp_test {b : Bool} (h : EvP K te S (.bl b)) : TpP K (tTest te) S b := fun Pn pl G H0 H σ Rr Q q => h Pn pl G H0 H σ Rr _ fun v H0' H' g e R' p => ⟨b, p, q H0' H' g e R'⟩
theorem tpn_test {R : Bool → List M → Prop} (h : EvN K te S fun d S1 => ∃ b, d = .bl b ∧ R b S1) : TpN K (tTest te) S R := fun Pn pl G H0 H σ Rr Q q => h Pn pl G H0 H σ Rr _ fun d S' v H0' H' ⟨b, e, r⟩ g R' p => by
  subst e
  exact ⟨b, p, q b S' H0' H' r g R'⟩
theorem tpp_B {b : Bool} (h : EvP K te S (.bl b)) : TpP K (tB te) S b := tpp_test h
theorem tpn_B {R : Bool → List M → Prop} (h : EvN K te S fun d S1 => ∃ b, d = .bl b ∧ R b S1) : TpN K (tB te) S R := tpn_test h
theorem tpp_not {b : Bool} (h : TpP K tt S b) : TpP K (tNot tt) S (!b) := fun Pn pl G H0 H σ Rr Q q => h Pn pl G H0 H σ Rr _ fun H0' H' g e R' => q H0' H' g e R'
theorem tpn_not {R : Bool → List M → Prop} (h : TpN K tt S fun b S1 => R (!b) S1) : TpN K (tNot tt) S R := fun Pn pl G H0 H σ Rr Q q => h Pn pl G H0 H σ Rr _ fun b S' H0' H' r g R' => q (!b) S' H0' H' r g R'
theorem tpp_and {a b : Bool} (h1 : TpP K tt S a) (h2 : a = true → TpP K tu S b) : TpP K (tAnd tt tu) S (a && b) := fun Pn pl G H0 H σ Rr Q q => h1 Pn pl G H0 H σ Rr _ fun H01 H1 g1 e1 R1 => by
  cases a with
  | true => exact h2 rfl Pn pl G H01 H1 σ R1 Q fun H02 H2 g2 e2 R2 => q H02 H2 (g1.trans g2) (e1.trans e2) R2
  | false => exact q H01 H1 g1 e1 R1
theorem tpp_or {a b : Bool} (h1 : TpP K tt S a) (h2 : a = false → TpP K tu S b) : TpP K (tOr tt tu) S (a || b) := fun Pn pl G H0 H σ Rr Q q => h1 Pn pl G H0 H σ Rr _ fun H01 H1 g1 e1 R1 => by
  cases a with
  | true => exact q H01 H1 g1 e1 R1
  | false => exact h2 rfl Pn pl G H01 H1 σ R1 Q fun H02 H2 g2 e2 R2 => q H02 H2 (g1.trans g2) (e1.trans e2) R2
theorem tpn_and {R : Bool → List M → Prop} (h1 : TpN K tt S fun a S1 => (a = true → TpN K tu S1 R) ∧ (a = false → R false S1)) : TpN K (tAnd tt tu) S R := fun Pn pl G H0 H σ Rr Q q => h1 Pn pl G H0 H σ Rr _ fun a S1 H01 H1 ⟨k1, k2⟩ g1 R1 => by
  cases a with
  | true => exact k1 rfl Pn pl G H01 H1 σ R1 Q fun b S2 H02 H2 r g2 R2 => q b S2 H02 H2 r (g1.trans g2) R2
  | false => exact q false S1 H01 H1 (k2 rfl) g1 R1
theorem tpn_or {R : Bool → List M → Prop} (h1 : TpN K tt S fun a S1 => (a = false → TpN K tu S1 R) ∧ (a = true → R true S1)) : TpN K (tOr tt tu) S R := fun Pn pl G H0 H σ Rr Q q => h1 Pn pl G H0 H σ Rr _ fun a S1 H01 H1 ⟨k1, k2⟩ g1 R1 => by
  cases a with
  | true => exact q true S1 H01 H1 (k2 rfl) g1 R1
  | false => exact k1 rfl Pn pl G H01 H1 σ R1 Q fun b S2 H02 H2 r g2 R2 => q b S2 H02 H2 r (g1.trans g2) R2
theorem evp_andV {a b : Bool} (h1 : EvP K ta S (.bl a)) (h2 : a = true → EvP K tb S (.bl b)) : EvP K (tAndV ta tb) S (.bl (a && b)) := fun Pn pl G H0 H σ Rr Q q => h1 Pn pl G H0 H σ Rr _ fun v H01 H1 g1 e1 R1 p1 => ⟨a, p1, by
  cases a with
  | true => exact h2 rfl Pn pl G H01 H1 σ R1 Q fun v H02 H2 g2 e2 R2 p2 => q v H02 H2 (g1.trans g2) (e1.trans e2) R2 p2
  | false => exact q _ H01 H1 g1 e1 R1 rfl⟩
theorem evp_orV {a b : Bool} (h1 : EvP K ta S (.bl a)) (h2 : a = false → EvP K tb S (.bl b)) : EvP K (tOrV ta tb) S (.bl (a || b)) := fun Pn pl G H0 H σ Rr Q q => h1 Pn pl G H0 H σ Rr _ fun v H01 H1 g1 e1 R1 p1 => ⟨a, p1, by
  cases a with
  | true => exact q _ H01 H1 g1 e1 R1 rfl
  | false => exact h2 rfl Pn pl G H01 H1 σ R1 Q fun v H02 H2 g2 e2 R2 p2 => q v H02 H2 (g1.trans g2) (e1.trans e2) R2 p2⟩
theorem evn_andV {R : D → List M → Prop} (h1 : EvN K ta S fun d S1 => ∃ a, d = .bl a ∧ (a = true → EvN K tb S1 R) ∧ (a = false → R (.bl false) S1)) : EvN K (tAndV ta tb) S R := fun Pn pl G H0 H σ Rr Q q => h1 Pn pl G H0 H σ Rr _ fun d S1 v H01 H1 ⟨a, e, k1, k2⟩ g1 R1 p1 => by
  subst e
  refine ⟨a, p1, ?_⟩
  cases a with
  | true => exact k1 rfl Pn pl G H01 H1 σ R1 Q fun b S2 w H02 H2 r g2 R2 p2 => q b S2 w H02 H2 r (g1.trans g2) R2 p2
  | false => exact q _ S1 _ H01 H1 (k2 rfl) g1 R1 rfl
theorem evn_orV {R : D → List M → Prop} (h1 : EvN K ta S fun d S1 => ∃ a, d = .bl a ∧ (a = false → EvN K tb S1 R) ∧ (a = true → R (.bl true) S1)) : EvN K (tOrV ta tb) S R := fun Pn pl G H0 H σ Rr Q q => h1 Pn pl G H0 H σ Rr _ fun d S1 v H01 H1 ⟨a, e, k1, k2⟩ g1 R1 p1 => by
  subst e
  refine ⟨a, p1, ?_⟩
  cases a with
  | true => exact q _ S1 _ H01 H1 (k2 rfl) g1 R1 rfl
  | false => exact k1 rfl Pn pl G H01 H1 σ R1 Q fun b S2 w H02 H2 r g2 R2 p2 => q b S2 w H02 H2 r (g1.trans g2) R2 p2
theorem evp_notV {a : Bool} (h : EvP K ta S (.bl a)) : EvP K (tNotV ta) S (.bl (!a)) := fun Pn pl G H0 H σ Rr Q q => h Pn pl G H0 H σ Rr _ fun v H01 H1 g1 e1 R1 p1 => ⟨a, p1, q _ H01 H1 g1 e1 R1 rfl⟩
theorem evn_notV {R : D → List M → Prop} (h : EvN K ta S fun d S1 => ∃ a, d = .bl a ∧ R (.bl (!a)) S1) : EvN K (tNotV ta) S R := fun Pn pl G H0 H σ Rr Q q => h Pn pl G H0 H σ Rr _ fun d S1 v H01 H1 ⟨a, e, r⟩ g1 R1 p1 => by
  subst e
  exact ⟨a, p1, q _ S1 _ H01 H1 r g1 R1 rfl⟩
theorem evp_if {b : Bool} (h : TpP K tt S b) (h1 : b = true → EvP K ta S d) (h2 : b = false → EvP K tb S d) : EvP K (tIf tt ta tb) S d := fun Pn pl G H0 H σ Rr Q q => h Pn pl G H0 H σ Rr _ fun H01 H1 g1 e1 R1 => by
  cases b with
  | true => exact h1 rfl Pn pl G H01 H1 σ R1 Q fun v H02 H2 g2 e2 R2 p2 => q v H02 H2 (g1.trans g2) (e1.trans e2) R2 p2
  | false => exact h2 rfl Pn pl G H01 H1 σ R1 Q fun v H02 H2 g2 e2 R2 p2 => q v H02 H2 (g1.trans g2) (e1.trans e2) R2 p2
theorem evn_if (h : TpN K tt S fun b S1 => (b = true → EvN K ta S1 R) ∧ (b = false → EvN K tb S1 R)) : EvN K (tIf tt ta tb) S R := fun Pn pl G H0 H σ Rr Q q => h Pn pl G H0 H σ Rr _ fun b S1 H01 H1 ⟨k1, k2⟩ g1 R1 => by
  cases b with
  | true => exact k1 rfl Pn pl G H01 H1 σ R1 Q fun d S2 v H02 H2 r g2 R2 p2 => q d S2 v H02 H2 r (g1.trans g2) R2 p2
  | false => exact k2 rfl Pn pl G H01 H1 σ R1 Q fun d S2 v H02 H2 r g2 R2 p2 => q d S2 v H02 H2 r (g1.trans g2) R2 p2
/-- chains a < b < c -/
theorem evp_chain {r r' : R2} {p q : Bool} (ha : EvB K ta S x) (hb : EvB K tb S y) (h1 : V2P K r x y (.bl p)) (hc : p = true → EvB K tc S z) (h2 : p = true → V2P K r' y z (.bl q)) : EvP K (tChain r r' ta tb tc) S (.bl (p && q)) := fun Pn pl G H0 H σ Rr Q k =>
  ha Pn pl G H0 H σ Rr _ fun v H01 H1 g1 e1 R1 p1 => hb Pn pl G H01 H1 σ R1 _ fun w H02 H2 g2 e2 R2 p2 =>
    h1 Pn pl G H02 H2 σ S v w R2 (p1.mono g2.ex e2) p2 _ fun t H03 H3 g3 e3 R3 p3 => ⟨p, p3, by
      cases p with
      | true =>
        rw [if_pos rfl]
        exact hc rfl Pn pl G H03 H3 σ R3 _ fun u H04 H4 g4 e4 R4 p4 => h2 rfl Pn pl G H04 H4 σ S w u R4 (p2.mono (g3.trans g4).ex (e3.trans e4)) p4 Q fun s H05 H5 g5 e5 R5 p5 =>
          k s H05 H5 ((((g1.trans g2).trans g3).trans g4).trans g5) ((((e1.trans e2).trans e3).trans e4).trans e5) R5 p5
      | false =>
        rw [if_neg Bool.false_ne_true]
        exact k _ H03 H3 ((g1.trans g2).trans g3) ((e1.trans e2).trans e3) R3 rfl⟩
end
end Dl
/-! Rules that serve any kind of operand, and what they give by data. -/
namespace Dl
open PySem L2 Evl

/-! ### one term for all kinds -/
def orR (r r' : R2) : R2 := fun x y H Q => r x y H Q ∨ r' x y H Q
def orC (r r' : List V → Hp → VK → Prop) : List V → Hp → VK → Prop := fun xs H Q => r xs H Q ∨ r' xs H Q
def orE (t t' : TE) : TE := fun σ H Q => t σ H Q ∨ t' σ H Q
def addS : R2 := fun x y H Q => ∃ i j, x = .str i ∧ y = .str j ∧ i.length + j.length ≤ sizeLine ∧ Q (.str (i ++ j)) H
abbrev addI : R2 := rI0 fun i j => .int (i + j)
def addU (K : PySem.W.Frag) : R2 := orR addI (orR addS (orR rCat (rCatA K)))
abbrev subI : R2 := rI0 fun i j => .int (i - j)
abbrev mulI : R2 := rI CMul fun i j => .int (i * j)
abbrev modI : R2 := rI (fun _ j => j ≠ 0) fun i j => .int (i.fmod j)
abbrev fdvI : R2 := rI CDivN fun i j => .int (i.fdiv j)
abbrev powI : R2 := rI CPow fun i j => .int (i ^ j.toNat)
abbrev ltI : R2 := rI0 fun i j => .bl (decide (i < j))
abbrev leI : R2 := rI0 fun i j => .bl (decide (i ≤ j))
abbrev gtI : R2 := rI0 fun i j => .bl (decide (j < i))
abbrev geI : R2 := rI0 fun i j => .bl (decide (j ≤ i))
def isN : R2 := fun x y H Q => y = .non ∧ Q (.bl (decide (x = .non))) H
def notN : R2 := fun x y H Q => y = .non ∧ Q (.bl (!decide (x = .non))) H
def isU : R2 := orR isN rIsB
def notU : R2 := orR notN rNotB
def inU (K : PySem.W.Frag) : R2 := orR (rIn K false) (rInD K)
def ninU (K : PySem.W.Frag) : R2 := orR (rIn K true) (rNotInD K)
def lenSq (K : PySem.W.Frag) : List V → Hp → VK → Prop := fun xs H Q => ∃ p ys, xs = [.ref p] ∧ (SqL K H p ys ∨ SqT K H p ys) ∧ Q (.int ys.length) H
def lenSt : List V → Hp → VK → Prop := fun xs H Q => ∃ z, xs = [.str z] ∧ z.length ≤ sizeLine ∧ Q (.int z.length) H
def lenU (K : PySem.W.Frag) : List V → Hp → VK → Prop := orC (lenSq K) lenSt
def listSq (K : PySem.W.Frag) : List V → Hp → VK → Prop := fun xs H Q => ∃ p ys, xs = [.ref p] ∧ (SqL K H p ys ∨ SqT K H p ys) ∧ ∀ l, H l = none → Q (.ref l) (upd H l (.lst ys))
def absI : List V → Hp → VK → Prop := fun xs H Q => ∃ i, xs = [.int i] ∧ Q (.int (if i < 0 then -i else i)) H
def intU : List V → Hp → VK → Prop := fun xs H Q => (∃ i, xs = [.int i] ∧ Q (.int i) H) ∨ ∃ k, xs = [.bl k] ∧ Q (.int (if k then 1 else 0)) H
def strI : List V → Hp → VK → Prop := fun xs H Q => ∃ i, xs = [.int i] ∧ i.natAbs.log2 < 1920 ∧ Q (.str (toString i)) H
def max2 : List V → Hp → VK → Prop := fun xs H Q => ∃ i j, xs = [.int i, .int j] ∧ Q (.int (if j > i then j else i)) H
def min2 : List V → Hp → VK → Prop := fun xs H Q => ∃ i j, xs = [.int i, .int j] ∧ Q (.int (if j < i then j else i)) H
def slU (K : PySem.W.Frag) : V → Option Int → Option Int → Hp → VK → Prop := fun x lo hi H Q => rSlL K x lo hi H Q ∨ rSlA K x lo hi H Q
section
variable {X : Cx}
theorem pe_or {e : Expr} {t t' : TE} (h : PE X e t) (h' : PE X e t') : PE X e (orE t t') := ⟨fun pins s σ H Q I q => q.elim (fun q => h.run pins s σ H Q I q) fun q => h'.run pins s σ H Q I q⟩
theorem or_addU : OpR X (binaryOp .Add) (addU X.K) := OpR.or op_add (OpR.or op_add_str (OpR.or op_cat op_catA))
theorem or_isU : OpR X (compareOp .Is) isU := OpR.or op_isN op_isBl
theorem or_notU : OpR X (compareOp .IsNot) notU := OpR.or op_notN op_notBl
theorem or_inU (hu : X.A.units + 65 < cLine) : OpR X (compareOp .In) (inU X.K) := OpR.or op_in_seq (op_inD hu)
theorem or_ninU (hu : X.A.units + 65 < cLine) : OpR X (compareOp .NotIn) (ninU X.K) := OpR.or op_notIn_seq (op_notInD hu)
theorem cr_lenU : CallR X (.builtin "len") (lenU X.K) := CallR.or call_len_seq call_len_str
theorem cr_listSq : CallR X (.type "list") (listSq X.K) := call_list_of
theorem cr_absI : CallR X (.builtin "abs") absI := call_abs
theorem cr_intU : CallR X (.type "int") intU := call_int1
theorem cr_strI : CallR X (.type "str") strI := call_str_int
theorem cr_max2 (hc : X.calm = true) : CallR X (.builtin "max") max2 := call_max2 hc
theorem cr_min2 (hc : X.calm = true) : CallR X (.builtin "min") min2 := call_min2 hc
theorem sr_slU : SlR X (slU X.K) := SlR.or sl_list sl_tupA
/-- a[b]: a list, a tuple, a text, a dict -/
theorem pe_sub {a b : Expr} {ta tb : TE} {pos : Pos} (hu : X.A.units + 1 < cLine) (ha : PE X a ta) (hb : PE X b tb) (hs : PlainIx b) (hs2 : NoSl b) : PE X (.Subscript a b pos) (orE (tOp (rIx X.K) ta tb) (tDGet ta tb)) :=
  pe_or (pe_ix ix_seq ha hb hs) (pe_dget hu ha hb hs2)
/-- a in b: a list, a tuple, a dict -/
theorem pe_inU {a b : Expr} {ta tb : TE} {pos : Pos} (hu : X.A.units + 65 < cLine) (ha : PE X a ta) (hb : PE X b tb) (hm : behindInMarks .In b = false) (hf : behindInMarks .In b = false := by rfl) : PE X (.Compare a [.In] [b] pos) (orE (tOp (inU X.K) ta tb) (tDIn ta tb)) :=
  pe_or (pe_cmpR (or_inU hu) ha hb hm) (pe_cmp (pc_din (by omega) ha hb) hf)
theorem pe_ninU {a b : Expr} {ta tb : TE} {pos : Pos} (hu : X.A.units + 65 < cLine) (ha : PE X a ta) (hb : PE X b tb) (hm : behindInMarks .NotIn b = false) (hf : behindInMarks .NotIn b = false := by rfl) : PE X (.Compare a [.NotIn] [b] pos) (orE (tOp (ninU X.K) ta tb) (tDNotIn ta tb)) :=
  pe_or (pe_cmpR (or_ninU hu) ha hb hm) (pe_cmp (pc_dnotin (by omega) ha hb) hf)
/-- for over a list or a tuple -/
def iSq (K : PySem.W.Frag) (tl : TE) : TI := fun σ H R => iList K tl σ H R ∨ iTup K tl σ H R
theorem pi_sq {tg l : Expr} {tl : TE} (hl : PE X l tl) : PI X tg l (iSq X.K tl) := ⟨fun pins s σ H R I h => h.elim (fun h => (pi_list hl).run pins s σ H R I h) fun h => (pi_tup hl).run pins s σ H R I h⟩
end

/-! ### what they give -/
section
variable {K : PySem.W.Frag} {S : List M} {x y z d : D}
section
variable {H0 H : Hp} {v : V} {xs ds : List D}
theorem Rb.int {i : Int} (h : Rb K H0 H (.int i) v) : v = .int i := by
  rcases h with h | ⟨l, rfl, h⟩
  · exact h
  · exact h.elim
theorem Rb.bl {b : Bool} (h : Rb K H0 H (.bl b) v) : v = .bl b := by
  rcases h with h | ⟨l, rfl, h⟩
  · exact h
  · exact h.elim
theorem Rb.str {b : PySem.Str} (h : Rb K H0 H (.str b) v) : v = .str b := by
  rcases h with h | ⟨l, rfl, h⟩
  · exact h
  · exact h.elim
theorem Rb.non (h : Rb K H0 H .non v) : v = .non := by
  rcases h with h | ⟨l, rfl, h⟩
  · exact h
  · exact h.elim
theorem Rb.ty {n : String} (h : Rb K H0 H (.ty n) v) : v = .ty n := by
  rcases h with h | ⟨l, rfl, h⟩
  · exact h
  · exact h.elim
theorem Rb.lst (h : Rb K H0 H (.lst xs) v) (e : Ex H0 H) : ∃ a vs, v = .ref a ∧ H a = some (.lst vs) ∧ Rps K H0 xs vs := by
  rcases h with ⟨a, vs, rfl, h1, h2⟩ | ⟨l, rfl, vs, h1, h2⟩
  · exact ⟨a, vs, rfl, e _ _ h1, h2⟩
  · exact ⟨l, vs, rfl, h1, h2⟩
theorem Rb.tup (h : Rb K H0 H (.tup xs) v) (e : Ex H0 H) : ∃ a vs, v = .ref a ∧ H0 a = some (.tup vs) ∧ H a = some (.tup vs) ∧ Rps K H0 xs vs := by
  rcases h with ⟨a, vs, rfl, h1, h2⟩ | ⟨l, rfl, h⟩
  · exact ⟨a, vs, rfl, h1, e _ _ h1, h2⟩
  · exact h.elim
theorem Rb.dk {ks : List Key} (h : Rb K H0 H (.dk ks xs) v) (e : Ex H0 H) : ∃ a vs, v = .ref a ∧ H a = some (.dK (ks.zip vs)) ∧ ks.length = vs.length ∧ Rps K H0 xs vs := by
  rcases h with ⟨a, vs, rfl, h1, hl, h2⟩ | ⟨l, rfl, vs, h1, hl, h2⟩
  · exact ⟨a, vs, rfl, e _ _ h1, hl, h2⟩
  · exact ⟨l, vs, rfl, h1, hl, h2⟩
theorem Rb.ins {C : Addr} {ns : List PySem.Str} (h : Rb K H0 H (.ins C ns xs) v) (e : Ex H0 H) : ∃ a dx vs, v = .ref a ∧ H a = some (.ins C dx (ns.zip vs)) ∧ ns.length = vs.length ∧ Rps K H0 xs vs := by
  rcases h with ⟨a, dx, vs, rfl, h1, hl, h2⟩ | ⟨l, rfl, dx, vs, h1, hl, h2⟩
  · exact ⟨a, dx, vs, rfl, e _ _ h1, hl, h2⟩
  · exact ⟨l, dx, vs, rfl, h1, hl, h2⟩
theorem Rps.get : ∀ {ds : List D} {vs : List V} {i : Nat} {d : D}, Rps K H ds vs → ds[i]? = some d → ∃ v, vs[i]? = some v ∧ Rp K H d v
  | [], _, _, _, _, e => by cases e
  | x :: ds, vs, i, d, h, e => by
    unfold Rps at h
    obtain ⟨v, r, rfl, h2, h3⟩ := h
    cases i with
    | zero => cases e; exact ⟨v, rfl, h2⟩
    | succ i => exact Rps.get (i := i) h3 e
theorem Rps.append : ∀ {ds es : List D} {vs ws : List V}, Rps K H ds vs → Rps K H es ws → Rps K H (ds ++ es) (vs ++ ws)
  | [], es, vs, ws, h, k => by unfold Rps at h; subst h; exact k
  | x :: ds, es, vs, ws, h, k => by
    unfold Rps at h
    obtain ⟨v, r, rfl, h2, h3⟩ := h
    exact ⟨v, r ++ ws, rfl, h2, Rps.append h3 k⟩
theorem Rps.take : ∀ {ds : List D} {vs : List V} (n : Nat), Rps K H ds vs → Rps K H (ds.take n) (vs.take n)
  | [], vs, n, h => by unfold Rps at h; subst h; cases n <;> rfl
  | x :: ds, vs, n, h => by
    unfold Rps at h
    obtain ⟨v, r, rfl, h2, h3⟩ := h
    cases n with
    | zero => rfl
    | succ n => exact ⟨v, r.take n, rfl, h2, Rps.take n h3⟩
theorem Rps.drop : ∀ {ds : List D} {vs : List V} (n : Nat), Rps K H ds vs → Rps K H (ds.drop n) (vs.drop n)
  | [], vs, n, h => by unfold Rps at h; subst h; cases n <;> rfl
  | x :: ds, vs, n, h => by
    unfold Rps at h
    obtain ⟨v, r, rfl, h2, h3⟩ := h
    cases n with
    | zero => exact ⟨v, r, rfl, h2, h3⟩
    | succ n => exact Rps.drop n h3
theorem Rps.set : ∀ {ds : List D} {vs : List V} {d : D} {v : V} (n : Nat), Rps K H ds vs → Rp K H d v → Rps K H (ds.set n d) (vs.set n v)
  | [], vs, d, v, n, h, p => by unfold Rps at h; subst h; cases n <;> rfl
  | x :: ds, vs, d, v, n, h, p => by
    unfold Rps at h
    obtain ⟨w, r, rfl, h2, h3⟩ := h
    cases n with
    | zero => exact ⟨v, r, rfl, p, h3⟩
    | succ n => exact ⟨w, r.set n v, rfl, h2, Rps.set n h3 p⟩
theorem Rps.ints : ∀ {ns : List Int} {vs : List V}, Rps K H (ns.map D.int) vs → vs = ns.map V.int
  | [], vs, h => h
  | n :: ns, vs, h => by
    obtain ⟨v, r, rfl, h2, h3⟩ := h
    rw [Rps.ints h3, show v = .int n from h2]; rfl
theorem Rps.of_ints : ∀ (ns : List Int), Rps K H (ns.map D.int) (ns.map V.int)
  | [] => rfl
  | n :: ns => ⟨_, _, rfl, rfl, Rps.of_ints ns⟩
theorem Rps.bls : ∀ {bs : List Bool} {vs : List V}, Rps K H (bs.map D.bl) vs → vs = bs.map V.bl
  | [], vs, h => h
  | n :: ns, vs, h => by
    obtain ⟨v, r, rfl, h2, h3⟩ := h
    rw [Rps.bls h3, show v = .bl n from h2]; rfl
theorem Rps.strs : ∀ {bs : List PySem.Str} {vs : List V}, Rps K H (bs.map D.str) vs → vs = bs.map V.str
  | [], vs, h => h
  | n :: ns, vs, h => by
    obtain ⟨v, r, rfl, h2, h3⟩ := h
    rw [Rps.strs h3, show v = .str n from h2]; rfl
end
/-- the value at hand is the end -/
theorem v2_done {r : R2} (h : ∀ H0 H v w, Ex H0 H → Rb K H0 H x v → Rb K H0 H y w → ∃ z, Rp K H0 d z ∧ ∀ Q : VK, Q z H → r v w H Q) : V2P K r x y d := fun Pn pl G H0 H σ S v w Rr hv hw Q q => by
  obtain ⟨z, hz, k⟩ := h H0 H v w Rr.e0 hv hw
  exact k Q (q z H0 H (Gr.refl _ _) (Ex.refl _) Rr hz)
theorem v1_done {r : V → Hp → VK → Prop} (h : ∀ H0 H v, Ex H0 H → Rb K H0 H x v → ∃ z, Rp K H0 d z ∧ ∀ Q : VK, Q z H → r v H Q) : V1P K r x d := fun Pn pl G H0 H σ S v Rr hv Q q => by
  obtain ⟨z, hz, k⟩ := h H0 H v Rr.e0 hv
  exact k Q (q z H0 H (Gr.refl _ _) (Ex.refl _) Rr hz)
theorem V2P.l {r r' : R2} (h : V2P K r x y d) : V2P K (orR r r') x y d := fun Pn pl G H0 H σ S v w Rr hv hw Q q => .inl (h Pn pl G H0 H σ S v w Rr hv hw Q q)
theorem V2P.r {r r' : R2} (h : V2P K r' x y d) : V2P K (orR r r') x y d := fun Pn pl G H0 H σ S v w Rr hv hw Q q => .inr (h Pn pl G H0 H σ S v w Rr hv hw Q q)
theorem V2F.l {r r' : R2} (h : V2F K r x y d) : V2F K (orR r r') x y d := fun Pn pl G H0 H σ S v w Rr hv hw Q q => .inl (h Pn pl G H0 H σ S v w Rr hv hw Q q)
theorem V2F.r {r r' : R2} (h : V2F K r' x y d) : V2F K (orR r r') x y d := fun Pn pl G H0 H σ S v w Rr hv hw Q q => .inr (h Pn pl G H0 H σ S v w Rr hv hw Q q)
theorem V1P.l {r r' : List V → Hp → VK → Prop} (h : V1P K (r1 r) x d) : V1P K (r1 (orC r r')) x d := fun Pn pl G H0 H σ S v Rr hv Q q => .inl (h Pn pl G H0 H σ S v Rr hv Q q)
theorem V1P.r {r r' : List V → Hp → VK → Prop} (h : V1P K (r1 r') x d) : V1P K (r1 (orC r r')) x d := fun Pn pl G H0 H σ S v Rr hv Q q => .inr (h Pn pl G H0 H σ S v Rr hv Q q)
theorem V1F.p {r : V → Hp → VK → Prop} (h : V1F K r x d) : V1P K r x d := fun Pn pl G H0 H σ S v Rr hv Q q => h Pn pl G H0 H σ S v Rr hv Q fun p H0' H' g e R' n0 ng ap o => by
  obtain ⟨H1, g1, R1, rp⟩ := ro_frz R' n0 ng ap o
  exact q _ H1 H' (g.trans g1) e R1 rp
theorem V2F.p {r : R2} (h : V2F K r x y d) : V2P K r x y d := fun Pn pl G H0 H σ S v w Rr hv hw Q q => h Pn pl G H0 H σ S v w Rr hv hw Q fun p H0' H' g e R' n0 ng ap o => by
  obtain ⟨H1, g1, R1, rp⟩ := ro_frz R' n0 ng ap o
  exact q _ H1 H' (g.trans g1) e R1 rp
/-! ints -/
theorem v_I0 {g : Int → Int → V} {i j : Int} (h : ∀ H, Rp K H d (g i j)) : V2P K (rI0 g) (.int i) (.int j) d := v2_done fun H0 H v w _ hv hw => ⟨_, h H0, fun Q q => ⟨i, j, hv.int, hw.int, q⟩⟩
theorem v_I {C : Int → Int → Prop} {g : Int → Int → V} {i j : Int} (hc : C i j) (h : ∀ H, Rp K H d (g i j)) : V2P K (rI C g) (.int i) (.int j) d := v2_done fun H0 H v w _ hv hw => ⟨_, h H0, fun Q q => ⟨i, j, hv.int, hw.int, hc, q⟩⟩
theorem v_add {i j : Int} : V2P K (addU K) (.int i) (.int j) (.int (i + j)) := V2P.l (r := addI) (v_I0 fun _ => rfl)
theorem v_sub {i j : Int} : V2P K subI (.int i) (.int j) (.int (i - j)) := v_I0 fun _ => rfl
theorem v_mul {i j : Int} (h : CMul i j) : V2P K mulI (.int i) (.int j) (.int (i * j)) := v_I h fun _ => rfl
theorem v_mod {i j : Int} (h : j ≠ 0) : V2P K modI (.int i) (.int j) (.int (i.fmod j)) := v_I h fun _ => rfl
theorem v_fdv {i j : Int} (h : CDivN i j) : V2P K fdvI (.int i) (.int j) (.int (i.fdiv j)) := v_I h fun _ => rfl
theorem v_pow {i j : Int} (h : CPow i j) : V2P K powI (.int i) (.int j) (.int (i ^ j.toNat)) := v_I h fun _ => rfl
theorem v_lt {i j : Int} : V2P K ltI (.int i) (.int j) (.bl (decide (i < j))) := v_I0 fun _ => rfl
theorem v_le {i j : Int} : V2P K leI (.int i) (.int j) (.bl (decide (i ≤ j))) := v_I0 fun _ => rfl
theorem v_gt {i j : Int} : V2P K gtI (.int i) (.int j) (.bl (decide (j < i))) := v_I0 fun _ => rfl
theorem v_ge {i j : Int} : V2P K geI (.int i) (.int j) (.bl (decide (j ≤ i))) := v_I0 fun _ => rfl
theorem v_neg {i : Int} : V1P K (rU fun i => .int (-i)) (.int i) (.int (-i)) := v1_done fun H0 H v _ hv => ⟨_, rfl, fun Q q => ⟨i, hv.int, q⟩⟩
theorem v_abs {i : Int} : V1P K (r1 absI) (.int i) (.int (i.natAbs : Int)) := v1_done fun H0 H v _ hv => ⟨.int (if i < 0 then -i else i), by show _ = _; congr 1; omega, fun Q q => ⟨i, by rw [hv.int], q⟩⟩
theorem v_int {i : Int} : V1P K (r1 intU) (.int i) (.int i) := v1_done fun H0 H v _ hv => ⟨_, rfl, fun Q q => .inl ⟨i, by rw [hv.int], q⟩⟩
theorem v_intb {b : Bool} : V1P K (r1 intU) (.bl b) (.int (if b then 1 else 0)) := v1_done fun H0 H v _ hv => ⟨_, rfl, fun Q q => .inr ⟨b, by rw [hv.bl], q⟩⟩
theorem v_stri {i : Int} (h : i.natAbs.log2 < 1920) : V1P K (r1 strI) (.int i) (.str (toString i)) := v1_done fun H0 H v _ hv => ⟨_, rfl, fun Q q => ⟨i, by rw [hv.int], h, q⟩⟩
theorem v_max2 {i j : Int} : V2P K (r2 max2) (.int i) (.int j) (.int (if j > i then j else i)) := v2_done fun H0 H v w _ hv hw => ⟨_, rfl, fun Q q => ⟨i, j, by rw [hv.int, hw.int], q⟩⟩
theorem v_min2 {i j : Int} : V2P K (r2 min2) (.int i) (.int j) (.int (if j < i then j else i)) := v2_done fun H0 H v w _ hv hw => ⟨_, rfl, fun Q q => ⟨i, j, by rw [hv.int, hw.int], q⟩⟩
/-! texts -/
theorem v_adds {i j : PySem.Str} (h : i.length + j.length ≤ 100000) : V2P K (addU K) (.str i) (.str j) (.str (i ++ j)) := V2P.r (V2P.l (r := addS) (v2_done fun H0 H v w _ hv hw => ⟨.str (i ++ j), rfl, fun Q q => ⟨i, j, hv.str, hw.str, sz_of h, q⟩⟩))
/-! lists, tuples -/
theorem V2F_lay {r : R2} {ds : List D} (h : ∀ H0 H v w, Ex H0 H → Rb K H0 H x v → Rb K H0 H y w → ∃ vs, Rps K H0 ds vs ∧ ∀ Q : VK, (∀ p, H p = none → Q (.ref p) (upd H p (.lst vs))) → r v w H Q) : V2F K r x y (.lst ds) := fun Pn pl G H0 H σ S v w Rr hv hw Q q => by
  obtain ⟨vs, h1, k⟩ := h H0 H v w Rr.e0 hv hw
  refine k Q fun p hp => ?_
  obtain ⟨R2, a, b, c, e2⟩ := Rr.new_own (o := .lst vs) hp
  exact q p H0 _ (Gr.refl _ _) e2 R2 a b c ⟨vs, upd_same, h1⟩
theorem V1F_lay {r : V → Hp → VK → Prop} {ds : List D} (h : ∀ H0 H v, Ex H0 H → Rb K H0 H x v → ∃ vs, Rps K H0 ds vs ∧ ∀ Q : VK, (∀ p, H p = none → Q (.ref p) (upd H p (.lst vs))) → r v H Q) : V1F K r x (.lst ds) := fun Pn pl G H0 H σ S v Rr hv Q q => by
  obtain ⟨vs, h1, k⟩ := h H0 H v Rr.e0 hv
  refine k Q fun p hp => ?_
  obtain ⟨R2, a, b, c, e2⟩ := Rr.new_own (o := .lst vs) hp
  exact q p H0 _ (Gr.refl _ _) e2 R2 a b c ⟨vs, upd_same, h1⟩
theorem V1P_layT {r : V → Hp → VK → Prop} {ds : List D} (h : ∀ H0 H v, Ex H0 H → Rb K H0 H x v → ∃ vs, Rps K H0 ds vs ∧ ∀ Q : VK, (∀ p, H p = none → Q (.ref p) (upd H p (.tup vs))) → r v H Q) : V1P K r x (.tup ds) := fun Pn pl G H0 H σ S v Rr hv Q q => by
  obtain ⟨vs, h1, k⟩ := h H0 H v Rr.e0 hv
  refine k Q fun p hp => ?_
  obtain ⟨g2, e2, R2⟩ := Rr.lay (o := .tup vs) hp
  exact q _ _ _ g2 e2 R2 ⟨p, vs, rfl, upd_same, Rps.mono g2.ex _ _ h1⟩
theorem v_cat {xs ys : List D} (h : xs.length + ys.length ≤ 100000) : V2F K (addU K) (.lst xs) (.lst ys) (.lst (xs ++ ys)) := by
  refine V2F.r (V2F.r (V2F.l (V2F_lay fun H0 H v w e hv hw => ?_)))
  obtain ⟨a, vs, rfl, h1, h2⟩ := hv.lst e
  obtain ⟨b, ws, rfl, h3, h4⟩ := hw.lst e
  exact ⟨vs ++ ws, h2.append h4, fun Q q => ⟨a, b, vs, ws, rfl, rfl, h1, h3, sz_of (by rw [← h2.length, ← h4.length]; exact h), q⟩⟩
theorem v_catt {xs ys : List D} (h : xs.length + ys.length ≤ 100000) : V2P K (addU K) (.tup xs) (.tup ys) (.tup (xs ++ ys)) := by
  refine V2P.r (V2P.r (V2P.r fun Pn pl G H0 H σ S v w Rr hv hw Q q => ?_))
  obtain ⟨a, vs, rfl, h0, h1, h2⟩ := hv.tup Rr.e0
  obtain ⟨b, ws, rfl, k0, h3, h4⟩ := hw.tup Rr.e0
  refine ⟨a, b, vs, ws, rfl, rfl, st_of h1, st_of h3, sz_of (by rw [← h2.length, ← h4.length]; exact h), fun e => ?_, fun ne e => ?_, fun _ _ p hp => ?_⟩
  · subst e
    have e0 : xs = [] := by cases xs with
      | nil => rfl
      | cons x xs => obtain ⟨_, _, z, _⟩ := h2; cases z
    subst e0
    exact q _ H0 H (Gr.refl _ _) (Ex.refl _) Rr ⟨b, ws, rfl, k0, h4⟩
  · subst e
    have e0 : ys = [] := by cases ys with
      | nil => rfl
      | cons x xs => obtain ⟨_, _, z, _⟩ := h4; cases z
    subst e0
    rw [List.append_nil] at q
    exact q _ H0 H (Gr.refl _ _) (Ex.refl _) Rr ⟨a, vs, rfl, h0, h2⟩
  · obtain ⟨g2, e2, R2⟩ := Rr.lay (o := .tup (vs ++ ws)) hp
    exact q _ _ _ g2 e2 R2 ⟨p, _, rfl, upd_same, Rps.mono g2.ex _ _ (h2.append h4)⟩
theorem v_lenl {xs : List D} : V1P K (r1 (lenU K)) (.lst xs) (.int xs.length) := V1P.l (v1_done fun H0 H v e hv => by
  obtain ⟨a, vs, rfl, h1, h2⟩ := hv.lst e
  exact ⟨.int vs.length, by show V.int vs.length = V.int xs.length; rw [h2.length], fun Q q => ⟨a, vs, rfl, .inl (sq_of h1), q⟩⟩)
theorem v_lent {xs : List D} : V1P K (r1 (lenU K)) (.tup xs) (.int xs.length) := V1P.l (v1_done fun H0 H v e hv => by
  obtain ⟨a, vs, rfl, _, h1, h2⟩ := hv.tup e
  exact ⟨.int vs.length, by show V.int vs.length = V.int xs.length; rw [h2.length], fun Q q => ⟨a, vs, rfl, .inr (st_of h1), q⟩⟩)
theorem v_lens {z : PySem.Str} (h : z.length ≤ 100000) : V1P K (r1 (lenU K)) (.str z) (.int z.length) := V1P.r (v1_done fun H0 H v e hv => ⟨.int z.length, rfl, fun Q q => ⟨z, by rw [hv.str], sz_of h, q⟩⟩)
theorem v_listl {xs : List D} : V1F K (r1 (listSq K)) (.lst xs) (.lst xs) := V1F_lay fun H0 H v e hv => by
  obtain ⟨a, vs, rfl, h1, h2⟩ := hv.lst e
  exact ⟨vs, h2, fun Q q => ⟨a, vs, rfl, .inl (sq_of h1), q⟩⟩
theorem v_listt {xs : List D} : V1F K (r1 (listSq K)) (.tup xs) (.lst xs) := V1F_lay fun H0 H v e hv => by
  obtain ⟨a, vs, rfl, _, h1, h2⟩ := hv.tup e
  exact ⟨vs, h2, fun Q q => ⟨a, vs, rfl, .inr (st_of h1), q⟩⟩
theorem v_tupl {xs : List D} : V1P K (kTup K) (.lst xs) (.tup xs) := V1P_layT fun H0 H v e hv => by
  obtain ⟨a, vs, rfl, h1, h2⟩ := hv.lst e
  exact ⟨vs, h2, fun Q q => .inl ⟨a, vs, rfl, sq_of h1, q⟩⟩
theorem v_tupt {xs : List D} : V1P K (kTup K) (.tup xs) (.tup xs) := v1_done fun H0 H v e hv => by
  obtain ⟨a, vs, rfl, h0, h1, h2⟩ := hv.tup e
  exact ⟨_, ⟨a, vs, rfl, h0, h2⟩, fun Q q => .inr ⟨a, vs, rfl, st_of h1, q⟩⟩
theorem map_int {α : Type} (f : α → Int) (xs : List α) : xs.map (fun a => D.int (f a)) = (xs.map f).map D.int := by rw [List.map_map]; rfl
theorem map_bl {α : Type} (f : α → Bool) (xs : List α) : xs.map (fun a => D.bl (f a)) = (xs.map f).map D.bl := by rw [List.map_map]; rfl
theorem v_sum {α : Type} {xs : List α} {f : α → Int} : V1P K (r1 (rSum K)) (.lst (xs.map fun a => .int (f a))) (.int (xs.map f).sum) := v1_done fun H0 H v e hv => by
  rw [map_int] at hv
  obtain ⟨a, vs, rfl, h1, h2⟩ := hv.lst e
  have h3 := h2.ints
  subst h3
  exact ⟨_, rfl, fun Q q => ⟨a, _, rfl, sq_of h1, q⟩⟩
theorem v_any {α : Type} {xs : List α} {f : α → Bool} : V1P K (r1 (rAny K)) (.lst (xs.map fun a => .bl (f a))) (.bl (xs.any f)) := v1_done fun H0 H v e hv => by
  rw [map_bl] at hv
  obtain ⟨a, vs, rfl, h1, h2⟩ := hv.lst e
  have h3 := h2.bls
  subst h3
  exact ⟨.bl ((xs.map f).any id), by rw [List.any_map]; rfl, fun Q q => ⟨a, _, rfl, sq_of h1, q⟩⟩
theorem v_all {α : Type} {xs : List α} {f : α → Bool} : V1P K (r1 (rAll K)) (.lst (xs.map fun a => .bl (f a))) (.bl (xs.all f)) := v1_done fun H0 H v e hv => by
  rw [map_bl] at hv
  obtain ⟨a, vs, rfl, h1, h2⟩ := hv.lst e
  have h3 := h2.bls
  subst h3
  exact ⟨.bl ((xs.map f).all id), by rw [List.all_map]; rfl, fun Q q => ⟨a, _, rfl, sq_of h1, q⟩⟩
theorem v_min {α : Type} {xs : List α} {f : α → Int} {m : Int} (h1 : m ∈ xs.map f) (h2 : ∀ y, y ∈ xs.map f → m ≤ y) : V1P K (r1 (rMin K)) (.lst (xs.map fun a => .int (f a))) (.int m) := v1_done fun H0 H v e hv => by
  rw [map_int] at hv
  obtain ⟨a, vs, rfl, k1, k2⟩ := hv.lst e
  have h3 := k2.ints
  subst h3
  refine ⟨.int m, rfl, fun Q q => ⟨a, _, rfl, sq_of k1, List.length_pos_of_mem h1, fun m' hm hle => ?_⟩⟩
  have e1 := hle m h1
  have e2 := h2 m' hm
  have e3 : m' = m := by omega
  rw [e3]; exact q
theorem v_max {α : Type} {xs : List α} {f : α → Int} {m : Int} (h1 : m ∈ xs.map f) (h2 : ∀ y, y ∈ xs.map f → y ≤ m) : V1P K (r1 (rMax K)) (.lst (xs.map fun a => .int (f a))) (.int m) := v1_done fun H0 H v e hv => by
  rw [map_int] at hv
  obtain ⟨a, vs, rfl, k1, k2⟩ := hv.lst e
  have h3 := k2.ints
  subst h3
  refine ⟨.int m, rfl, fun Q q => ⟨a, _, rfl, sq_of k1, List.length_pos_of_mem h1, fun m' hm hle => ?_⟩⟩
  have e1 := hle m h1
  have e2 := h2 m' hm
  have e3 : m' = m := by omega
  rw [e3]; exact q
/-! is, is not -/
theorem v_isN (h : ∀ H0 H v, Rb K H0 H x v → (v = .non ↔ x = .non)) {b : Bool} (hb : b = true ↔ x = .non) : V2P K isU x .non (.bl b) := V2P.l (v2_done fun H0 H v w e hv hw => ⟨_, rfl, fun Q q => ⟨hw.non, by
  have e1 : decide (v = V.non) = b := by
    cases b with
    | true => exact decide_eq_true ((h H0 H v hv).mpr (hb.mp rfl))
    | false => exact decide_eq_false fun z => Bool.false_ne_true (hb.mpr ((h H0 H v hv).mp z))
  rw [e1]; exact q⟩⟩)
theorem v_notN (h : ∀ H0 H v, Rb K H0 H x v → (v = .non ↔ x = .non)) {b : Bool} (hb : b = true ↔ x = .non) : V2P K notU x .non (.bl (!b)) := V2P.l (v2_done fun H0 H v w e hv hw => ⟨_, rfl, fun Q q => ⟨hw.non, by
  have e1 : decide (v = V.non) = b := by
    cases b with
    | true => exact decide_eq_true ((h H0 H v hv).mpr (hb.mp rfl))
    | false => exact decide_eq_false fun z => Bool.false_ne_true (hb.mpr ((h H0 H v hv).mp z))
  rw [e1]; exact q⟩⟩)
theorem rb_non {H0 H : Hp} {v : V} : ∀ {x : D}, Rb K H0 H x v → (v = .non ↔ x = .non) := fun {x} h => by
  constructor
  · intro e
    subst e
    rcases h with h | ⟨l, e, h⟩
    · cases x <;> simp only [Rp] at h <;> first
        | rfl
        | (obtain ⟨a, dx, vs, e, _⟩ := h; cases e)
        | (obtain ⟨a, vs, e, _⟩ := h; cases e)
        | cases h
    · cases e
  · intro e
    subst e
    exact h.non
def D.isN : D → Bool
  | .non => true
  | _ => false
theorem isN_iff {x : D} : x.isN = true ↔ x = .non := by cases x <;> simp [D.isN]
theorem v_is : V2P K isU x .non (.bl x.isN) := v_isN (fun _ _ _ h => rb_non h) isN_iff
theorem v_isn : V2P K notU x .non (.bl (!x.isN)) := v_notN (fun _ _ _ h => rb_non h) isN_iff
theorem v_isB {a b : Bool} : V2P K isU (.bl a) (.bl b) (.bl (decide (a = b))) := V2P.r (v2_done fun H0 H v w e hv hw => ⟨_, rfl, fun Q q => ⟨a, b, hv.bl, hw.bl, q⟩⟩)
theorem v_isnB {a b : Bool} : V2P K notU (.bl a) (.bl b) (.bl (!decide (a = b))) := V2P.r (v2_done fun H0 H v w e hv hw => ⟨_, rfl, fun Q q => ⟨a, b, hv.bl, hw.bl, q⟩⟩)
end
end Dl
/-! ==, in, subscripts, slices, dicts, isinstance, fields: what they give by data. -/
namespace Dl
open PySem L2 Evl

mutual
def D.py : D → PyData
  | .non => .none
  | .bl b => .bool b
  | .int i => .int i
  | .str x => .str x
  | .tup xs => .tuple (D.pys xs)
  | .lst xs => .list (D.pys xs)
  | _ => .none
def D.pys : List D → List PyData
  | [] => []
  | x :: xs => D.py x :: D.pys xs
end
mutual
def D.isPy : D → Bool
  | .non => true
  | .bl _ => true
  | .int _ => true
  | .str _ => true
  | .tup xs => D.isPys xs
  | .lst xs => D.isPys xs
  | _ => false
def D.isPys : List D → Bool
  | [] => true
  | x :: xs => D.isPy x && D.isPys xs
end
section
variable {K : PySem.W.Frag} {H : Hp}
mutual
theorem rp_dp : ∀ (d : D) (v : V), d.isPy = true → Rp K H d v → Dp K H v d.py
  | .non, v, _, h => by cases (show v = .non from h); exact .non
  | .bl b, v, _, h => by cases (show v = .bl b from h); exact .bl b
  | .int b, v, _, h => by cases (show v = .int b from h); exact .int b
  | .str b, v, _, h => by cases (show v = .str b from h); exact .str b
  | .tup xs, v, p, h => by
    obtain ⟨a, vs, rfl, h1, h2⟩ := (show ∃ a vs, v = V.ref a ∧ H a = some (.tup vs) ∧ Rps K H xs vs by unfold Rp at h; exact h)
    have p' : D.isPys xs = true := by unfold D.isPy at p; exact p
    have q := rps_dp xs vs p' h2
    unfold D.py
    exact .tup (st_of h1) q
  | .lst xs, v, p, h => by
    obtain ⟨a, vs, rfl, h1, h2⟩ := (show ∃ a vs, v = V.ref a ∧ H a = some (.lst vs) ∧ Rps K H xs vs by unfold Rp at h; exact h)
    have p' : D.isPys xs = true := by unfold D.isPy at p; exact p
    have q := rps_dp xs vs p' h2
    unfold D.py
    exact .lst (sq_of h1) q
  | .dk _ _, _, p, _ => by unfold D.isPy at p; cases p
  | .dt _ _, _, p, _ => by unfold D.isPy at p; cases p
  | .ins _ _ _, _, p, _ => by unfold D.isPy at p; cases p
  | .ty _, _, p, _ => by unfold D.isPy at p; cases p
theorem rps_dp : ∀ (ds : List D) (vs : List V), D.isPys ds = true → Rps K H ds vs → DpAll K H vs (D.pys ds)
  | [], vs, _, h => by
    have e : vs = [] := by unfold Rps at h; exact h
    subst e; unfold D.pys; exact .nil
  | d :: ds, vs, p, h => by
    obtain ⟨v, r, rfl, h1, h2⟩ := (show ∃ v r, vs = v :: r ∧ Rp K H d v ∧ Rps K H ds r by unfold Rps at h; exact h)
    unfold D.isPys at p
    rw [Bool.and_eq_true] at p
    have a := rp_dp d v p.1 h1
    have b := rps_dp ds r p.2 h2
    unfold D.pys
    exact .cons a b
end
end
/-- data of a type: which are equal just when the things are, of a depth -/
structure Emb {α : Type} (g : α → D) (n : Nat) : Prop where
  py : ∀ a, (g a).isPy = true
  lay : ∀ a, (g a).py.canLay0 = true
  dep : ∀ a, (g a).py.depth ≤ n
  eqv : ∀ a b, (PyData.eqv (g a).py (g b).py = true) ↔ a = b
theorem Emb.shaped {α : Type} {g : α → D} {n : Nat} (E : Emb g n) (h : n ≤ 64) (a : α) : SeqAt.shaped (g a).py = true := by
  show ((g a).py.canLay0 && decide ((g a).py.depth ≤ 64)) = true
  rw [E.lay a, decide_eq_true (Nat.le_trans (E.dep a) h)]; rfl
theorem Emb.mono {α : Type} {g : α → D} {n m : Nat} (E : Emb g n) (h : n ≤ m) : Emb g m := ⟨E.py, E.lay, fun a => Nat.le_trans (E.dep a) h, E.eqv⟩
theorem emb_int : Emb D.int 0 := ⟨fun _ => rfl, fun _ => rfl, fun _ => Nat.le_refl _, fun a b => by simp [D.py, PyData.eqv]⟩
section
variable {α β : Type} {g : α → D} {n : Nat}
theorem emb_pys (E : Emb g n) : ∀ xs : List α, D.isPys (xs.map g) = true ∧ PyData.canLayAll0 (D.pys (xs.map g)) = true ∧ PyData.depthAll (D.pys (xs.map g)) ≤ n
  | [] => ⟨rfl, rfl, Nat.zero_le _⟩
  | x :: xs => by
    obtain ⟨a, b, c⟩ := emb_pys E xs
    simp only [List.map_cons, D.isPys, D.pys, PyData.canLayAll0, PyData.depthAll, E.py x, E.lay x, a, b, Bool.and_self, true_and]
    exact Nat.max_le.mpr ⟨E.dep x, c⟩
theorem emb_eqs (E : Emb g n) : ∀ xs ys : List α, PyData.eqvAll (D.pys (xs.map g)) (D.pys (ys.map g)) = true ↔ xs = ys
  | [], [] => by simp [D.pys, PyData.eqvAll]
  | [], y :: ys => by simp [D.pys, PyData.eqvAll]
  | x :: xs, [] => by simp [D.pys, PyData.eqvAll]
  | x :: xs, y :: ys => by
    simp only [List.map_cons, D.pys, PyData.eqvAll, Bool.and_eq_true, E.eqv x y, emb_eqs E xs ys, List.cons.injEq]
theorem emb_lst (E : Emb g n) : Emb (fun xs : List α => D.lst (xs.map g)) (n + 1) := by
  refine ⟨fun xs => ?_, fun xs => ?_, fun xs => ?_, fun xs ys => ?_⟩
  · simp only [D.isPy]; exact (emb_pys E xs).1
  · simp only [D.py, PyData.canLay0]; exact (emb_pys E xs).2.1
  · simp only [D.py, PyData.depth]; have := (emb_pys E xs).2.2; omega
  · simp only [D.py, PyData.eqv]; exact emb_eqs E xs ys
theorem emb_tup (E : Emb g n) : Emb (fun xs : List α => D.tup (xs.map g)) (n + 1) := by
  refine ⟨fun xs => ?_, fun xs => ?_, fun xs => ?_, fun xs ys => ?_⟩
  · simp only [D.isPy]; exact (emb_pys E xs).1
  · simp only [D.py, PyData.canLay0]; exact (emb_pys E xs).2.1
  · simp only [D.py, PyData.depth]; have := (emb_pys E xs).2.2; omega
  · simp only [D.py, PyData.eqv]; exact emb_eqs E xs ys
theorem emb_pair {h : β → D} {m : Nat} (E : Emb g n) (F : Emb h m) : Emb (fun p : α × β => D.tup [g p.1, h p.2]) (max n m + 1) := by
  refine ⟨fun p => ?_, fun p => ?_, fun p => ?_, fun p q => ?_⟩
  · simp only [D.isPy, D.isPys, E.py, F.py, Bool.and_self]
  · simp only [D.py, D.pys, PyData.canLay0, PyData.canLayAll0, E.lay, F.lay, Bool.and_self]
  · simp only [D.py, D.pys, PyData.depth, PyData.depthAll]
    have h1 := E.dep p.1
    have h2 := F.dep p.2
    omega
  · obtain ⟨a, b⟩ := p
    obtain ⟨c, d⟩ := q
    simp only [D.py, D.pys, PyData.eqv, PyData.eqvAll, Bool.and_eq_true, E.eqv, F.eqv, and_true, Prod.mk.injEq]
end

section
variable {K : PySem.W.Frag} {S : List M} {x y z d : D} {ta tb te : TE}
theorem Rb.dp {H0 H : Hp} {v : V} (h : Rb K H0 H d v) (e : Ex H0 H) (p : d.isPy = true) : Dp K H v d.py := rp_dp d v p (h.rp e)
theorem v_eq (px : x.isPy = true) (py : y.isPy = true) (sx : SeqAt.shaped x.py = true) (sy : SeqAt.shaped y.py = true) : V2P K (rEqD K) x y (.bl (PyData.eqv x.py y.py)) := v2_done fun H0 H v w e hv hw =>
  ⟨_, rfl, fun Q q => ⟨_, _, hv.dp e px, hw.dp e py, sx, sy, q⟩⟩
theorem v_ne (px : x.isPy = true) (py : y.isPy = true) (sx : SeqAt.shaped x.py = true) (sy : SeqAt.shaped y.py = true) : V2P K (rNeD K) x y (.bl (!PyData.eqv x.py y.py)) := v2_done fun H0 H v w e hv hw =>
  ⟨_, rfl, fun Q q => ⟨_, _, hv.dp e px, hw.dp e py, sx, sy, q⟩⟩
theorem v_eqT {α : Type} [DecidableEq α] {g : α → D} {n : Nat} (E : Emb g n) (h : n ≤ 64) {a b : α} : V2P K (rEqD K) (g a) (g b) (.bl (decide (a = b))) := by
  have e : decide (a = b) = PyData.eqv (g a).py (g b).py := by
    cases q : PyData.eqv (g a).py (g b).py with
    | true => exact decide_eq_true ((E.eqv a b).mp q)
    | false => exact decide_eq_false fun z => by rw [(E.eqv a b).mpr z] at q; cases q
  rw [e]
  exact v_eq (E.py a) (E.py b) (E.shaped h a) (E.shaped h b)
theorem v_neT {α : Type} [DecidableEq α] {g : α → D} {n : Nat} (E : Emb g n) (h : n ≤ 64) {a b : α} : V2P K (rNeD K) (g a) (g b) (.bl (!decide (a = b))) := by
  have e : decide (a = b) = PyData.eqv (g a).py (g b).py := by
    cases q : PyData.eqv (g a).py (g b).py with
    | true => exact decide_eq_true ((E.eqv a b).mp q)
    | false => exact decide_eq_false fun z => by rw [(E.eqv a b).mpr z] at q; cases q
  rw [e]
  exact v_ne (E.py a) (E.py b) (E.shaped h a) (E.shaped h b)
theorem v_eqi {a b : Int} : V2P K (rEqD K) (.int a) (.int b) (.bl (decide (a = b))) := v_eqT emb_int (by decide)
theorem v_nei {a b : Int} : V2P K (rNeD K) (.int a) (.int b) (.bl (!decide (a = b))) := v_neT emb_int (by decide)
/-! in -/
theorem v_inT {α : Type} [DecidableEq α] {g : α → D} {n : Nat} (E : Emb g n) (h : n ≤ 63) {a : α} {xs : List α} : V2P K (inU K) (g a) (.lst (xs.map g)) (.bl (decide (a ∈ xs))) := by
  have F := emb_lst E
  refine V2P.r (v2_done fun H0 H v w e hv hw => ⟨_, rfl, fun Q q => ⟨_, D.pys (xs.map g), hv.dp e (E.py a), ?_, E.shaped (by omega) a, ?_, ?_⟩⟩)
  · have := hw.dp e (F.py xs)
    unfold D.py at this
    exact this
  · have := F.shaped (by omega) xs
    unfold D.py at this
    exact this
  · have key : ∀ ys : List α, ((D.pys (ys.map g)).any fun z => PyData.eqv z (g a).py) = decide (a ∈ ys) := fun ys => by
      induction ys with
      | nil => rfl
      | cons y ys ih =>
        rw [List.map_cons, D.pys, List.any_cons, ih]
        by_cases q : y = a
        · rw [(E.eqv y a).mpr q, q]; simp
        · have : PyData.eqv (g y).py (g a).py = false := by
            cases z : PyData.eqv (g y).py (g a).py with
            | true => exact absurd ((E.eqv y a).mp z) q
            | false => rfl
          rw [this, Bool.false_or]
          exact decide_eq_decide.mpr ⟨fun h => List.mem_cons_of_mem _ h, fun h => (List.mem_cons.mp h).elim (fun z => absurd z.symm q) fun z => z⟩
    rw [key]
    exact q
theorem v_ninT {α : Type} [DecidableEq α] {g : α → D} {n : Nat} (E : Emb g n) (h : n ≤ 63) {a : α} {xs : List α} : V2P K (ninU K) (g a) (.lst (xs.map g)) (.bl (!decide (a ∈ xs))) := by
  have F := emb_lst E
  refine V2P.r (v2_done fun H0 H v w e hv hw => ⟨_, rfl, fun Q q => ⟨_, D.pys (xs.map g), hv.dp e (E.py a), ?_, E.shaped (by omega) a, ?_, ?_⟩⟩)
  · have := hw.dp e (F.py xs)
    unfold D.py at this
    exact this
  · have := F.shaped (by omega) xs
    unfold D.py at this
    exact this
  · have key : ∀ ys : List α, ((D.pys (ys.map g)).any fun z => PyData.eqv z (g a).py) = decide (a ∈ ys) := fun ys => by
      induction ys with
      | nil => rfl
      | cons y ys ih =>
        rw [List.map_cons, D.pys, List.any_cons, ih]
        by_cases q : y = a
        · rw [(E.eqv y a).mpr q, q]; simp
        · have : PyData.eqv (g y).py (g a).py = false := by
            cases z : PyData.eqv (g y).py (g a).py with
            | true => exact absurd ((E.eqv y a).mp z) q
            | false => rfl
          rw [this, Bool.false_or]
          exact decide_eq_decide.mpr ⟨fun h => List.mem_cons_of_mem _ h, fun h => (List.mem_cons.mp h).elim (fun z => absurd z.symm q) fun z => z⟩
    rw [key]
    exact q
theorem inV_ints (i : Int) (ns : List Int) : inV (.int i) (ns.map V.int) = decide (i ∈ ns) := by
  induction ns with
  | nil => rfl
  | cons n ns ih =>
    unfold inV at *
    rw [List.map_cons, List.any_cons, ih]
    show ((n == i) || decide (i ∈ ns)) = _
    by_cases q : n = i
    · subst q; simp
    · rw [beq_eq_false_iff_ne.mpr q, Bool.false_or]
      exact decide_eq_decide.mpr ⟨fun h => List.mem_cons_of_mem _ h, fun h => (List.mem_cons.mp h).elim (fun z => absurd z.symm q) fun z => z⟩
theorem flat_ints (ns : List Int) : (ns.map V.int).all flatV = true := by
  induction ns with
  | nil => rfl
  | cons n ns ih => rw [List.map_cons, List.all_cons, ih]; rfl
theorem v_in_ints {i : Int} {ns : List Int} : V2P K (inU K) (.int i) (.lst (ns.map D.int)) (.bl (decide (i ∈ ns))) := V2P.l (v2_done fun H0 H v w e hv hw => by
  obtain ⟨a, vs, rfl, h1, h2⟩ := hw.lst e
  have e2 := h2.ints
  subst e2
  rw [hv.int]
  exact ⟨.bl (inV (.int i) (ns.map V.int)), by show V.bl _ = V.bl _; rw [inV_ints], fun Q q => ⟨a, _, rfl, .inl (sq_of h1), rfl, flat_ints ns, q⟩⟩)
theorem v_nin_ints {i : Int} {ns : List Int} : V2P K (ninU K) (.int i) (.lst (ns.map D.int)) (.bl (!decide (i ∈ ns))) := V2P.l (v2_done fun H0 H v w e hv hw => by
  obtain ⟨a, vs, rfl, h1, h2⟩ := hw.lst e
  have e2 := h2.ints
  subst e2
  rw [hv.int]
  exact ⟨.bl (!inV (.int i) (ns.map V.int)), by show V.bl _ = V.bl _; rw [inV_ints], fun Q q => ⟨a, _, rfl, .inl (sq_of h1), rfl, flat_ints ns, q⟩⟩)
theorem v_in_intst {i : Int} {ns : List Int} : V2P K (inU K) (.int i) (.tup (ns.map D.int)) (.bl (decide (i ∈ ns))) := V2P.l (v2_done fun H0 H v w e hv hw => by
  obtain ⟨a, vs, rfl, h0, h1, h2⟩ := hw.tup e
  have e2 := h2.ints
  subst e2
  rw [hv.int]
  exact ⟨.bl (inV (.int i) (ns.map V.int)), by show V.bl _ = V.bl _; rw [inV_ints], fun Q q => ⟨a, _, rfl, .inr (st_of h1), rfl, flat_ints ns, q⟩⟩)
theorem v_nin_intst {i : Int} {ns : List Int} : V2P K (ninU K) (.int i) (.tup (ns.map D.int)) (.bl (!decide (i ∈ ns))) := V2P.l (v2_done fun H0 H v w e hv hw => by
  obtain ⟨a, vs, rfl, h0, h1, h2⟩ := hw.tup e
  have e2 := h2.ints
  subst e2
  rw [hv.int]
  exact ⟨.bl (!inV (.int i) (ns.map V.int)), by show V.bl _ = V.bl _; rw [inV_ints], fun Q q => ⟨a, _, rfl, .inr (st_of h1), rfl, flat_ints ns, q⟩⟩)
theorem evp_in (ha : EvB K ta S x) (hb : EvB K tb S y) (hr : V2P K (inU K) x y d) : EvP K (orE (tOp (inU K) ta tb) (tDIn ta tb)) S d := fun Pn pl G H0 H σ Rr Q q => .inl (evp_op ha hb hr Pn pl G H0 H σ Rr Q q)
theorem evp_nin (ha : EvB K ta S x) (hb : EvB K tb S y) (hr : V2P K (ninU K) x y d) : EvP K (orE (tOp (ninU K) ta tb) (tDNotIn ta tb)) S d := fun Pn pl G H0 H σ Rr Q q => .inl (evp_op ha hb hr Pn pl G H0 H σ Rr Q q)
/-! subscripts -/
theorem v_ixl {xs : List D} {i : Int} (h : atI xs i = some d) : V2P K (rIx K) (.lst xs) (.int i) d := v2_done fun H0 H v w e hv hw => by
  obtain ⟨a, vs, rfl, h1, h2⟩ := hv.lst e
  unfold atI at h
  cases q : ixN xs.length i with
  | none => rw [q] at h; cases h
  | some j =>
    rw [q] at h
    obtain ⟨v, hv1, hv2⟩ := h2.get (show xs[j]? = some d from h)
    refine ⟨v, hv2, fun Q k => .inl ⟨a, vs, i, v, rfl, hw.int, sq_of h1, ?_, k⟩⟩
    unfold atI
    rw [← h2.length, q]
    exact hv1
theorem v_ixt {xs : List D} {i : Int} (h : atI xs i = some d) : V2P K (rIx K) (.tup xs) (.int i) d := v2_done fun H0 H v w e hv hw => by
  obtain ⟨a, vs, rfl, h0, h1, h2⟩ := hv.tup e
  unfold atI at h
  cases q : ixN xs.length i with
  | none => rw [q] at h; cases h
  | some j =>
    rw [q] at h
    obtain ⟨v, hv1, hv2⟩ := h2.get (show xs[j]? = some d from h)
    refine ⟨v, hv2, fun Q k => .inr (.inl ⟨a, vs, i, v, rfl, hw.int, st_of h1, ?_, k⟩)⟩
    unfold atI
    rw [← h2.length, q]
    exact hv1
theorem evp_ix (ha : EvB K ta S x) (hb : EvB K tb S y) (hr : V2P K (rIx K) x y d) : EvP K (orE (tOp (rIx K) ta tb) (tDGet ta tb)) S d := fun Pn pl G H0 H σ Rr Q q => .inl (evp_op ha hb hr Pn pl G H0 H σ Rr Q q)
theorem evn_ix {R : D → List M → Prop} (h : EvN K (tOp (rIx K) ta tb) S R) : EvN K (orE (tOp (rIx K) ta tb) (tDGet ta tb)) S R := fun Pn pl G H0 H σ Rr Q q => .inl (h Pn pl G H0 H σ Rr Q q)
/-! dicts -/
def lkD {κ : Type} [DecidableEq κ] : List κ → List D → κ → Option D
  | k :: ks, x :: xs, j => if k = j then some x else lkD ks xs j
  | _, _, _ => none
def keyD : Key → D
  | .inl i => .int i
  | .inr s => .str s
theorem keyD_v {H0 H : Hp} {k : Key} {v : V} (h : Rb K H0 H (keyD k) v) : v = kV k := by
  cases k with
  | inl i => exact h.int
  | inr s => exact h.str
theorem lk_val {κ : Type} [DecidableEq κ] {H : Hp} : ∀ {ks : List κ} {ds : List D} {vs : List V} (j : κ), ks.length = vs.length → Rps K H ds vs →
    (∀ d, lkD ks ds j = some d → ∃ v, valV (ks.zip vs) j = some v ∧ Rp K H d v) ∧ (lkD ks ds j = none → valV (ks.zip vs) j = none)
  | [], ds, vs, j, hl, h => by
    cases ds <;> exact ⟨fun d e => by simp [lkD] at e, fun _ => rfl⟩
  | k :: ks, [], vs, j, hl, h => by
    have e : vs = [] := by unfold Rps at h; exact h
    subst e
    cases hl
  | k :: ks, x :: ds, vs, j, hl, h => by
    obtain ⟨v, r, rfl, h1, h2⟩ := (show ∃ v r, vs = v :: r ∧ Rp K H x v ∧ Rps K H ds r by unfold Rps at h; exact h)
    have hl' : ks.length = r.length := by simpa using hl
    by_cases q : k = j
    · refine ⟨fun d e => ⟨v, ?_, ?_⟩, fun e => ?_⟩
      · rw [List.zip_cons_cons]; exact valV_pos (p := (k, v)) q
      · simp only [lkD, if_pos q] at e; cases e; exact h1
      · simp only [lkD, if_pos q] at e; cases e
    · have ih := lk_val j hl' h2
      simp only [lkD, if_neg q]
      rw [List.zip_cons_cons, valV_neg (p := (k, v)) q]
      exact ih
theorem evp_dget {k : Key} {ks : List Key} {xs : List D} (ha : EvB K ta S (.dk ks xs)) (hb : EvB K tb S (keyD k)) (h : lkD ks xs k = some d) : EvP K (orE (tOp (rIx K) ta tb) (tDGet ta tb)) S d := fun Pn pl G H0 H σ Rr Q q => .inr
  (ha Pn pl G H0 H σ Rr _ fun v H01 H1 g1 e1 R1 p1 => hb Pn pl G H01 H1 σ R1 _ fun w H02 H2 g2 e2 R2 p2 => by
    obtain ⟨a, vs, rfl, h1, hl, h2⟩ := (p1.mono g2.ex e2).dk R2.e0
    obtain ⟨v, hv, rv⟩ := (lk_val k hl h2).1 d h
    rw [keyD_v p2]
    refine ⟨a, v, rfl, ?_, q v H02 H2 (g1.trans g2) (e1.trans e2) R2 rv⟩
    rw [← hv]
    exact DGet.k h1)
/-- d[k], the key reckoned by what may change things -/
theorem evp_dgeti {i : Int} {ks : List Key} {xs : List D} (ha : EvB K ta S (.dk ks xs)) (hb : EvB K tb S (.int i)) (h : lkD ks xs (.inl i) = some d) : EvP K (orE (tOp (rIx K) ta tb) (tDGet ta tb)) S d := evp_dget (k := .inl i) ha hb h
theorem lk_mem {κ : Type} [DecidableEq κ] : ∀ (ks : List κ) (xs : List D) (j : κ), ks.length = xs.length → ((lkD ks xs j).isSome = true ↔ j ∈ ks)
  | [], xs, j, _ => by cases xs <;> simp [lkD]
  | k :: ks, [], j, h => by cases h
  | k :: ks, x :: xs, j, h => by
    have ih := lk_mem ks xs j (by simpa using h)
    by_cases q : k = j
    · simp [lkD, q]
    · simp only [lkD, if_neg q, ih, List.mem_cons]
      exact ⟨fun h => .inr h, fun h => h.elim (fun z => absurd z.symm q) fun z => z⟩
theorem lk_some {H : Hp} {ks : List Key} {ds : List D} {vs : List V} (k : Key) (hl : ks.length = vs.length) (h : Rps K H ds vs) : (valV (ks.zip vs) k).isSome = (lkD ks ds k).isSome := by
  have hv := lk_val k hl h
  cases z : lkD ks ds k with
  | none => rw [hv.2 z]; rfl
  | some d => obtain ⟨v, e, _⟩ := hv.1 d z; rw [e]; rfl
theorem evp_din {k : Key} {ks : List Key} {xs : List D} (ha : EvB K ta S (keyD k)) (hb : EvB K tb S (.dk ks xs)) : EvP K (orE (tOp (inU K) ta tb) (tDIn ta tb)) S (.bl (lkD ks xs k).isSome) := fun Pn pl G H0 H σ Rr Q q => .inr
  (ha Pn pl G H0 H σ Rr _ fun v H01 H1 g1 e1 R1 p1 => hb Pn pl G H01 H1 σ R1 _ fun w H02 H2 g2 e2 R2 p2 => by
    obtain ⟨a, vs, rfl, h1, hl, h2⟩ := p2.dk R2.e0
    rw [keyD_v p1]
    refine ⟨a, _, rfl, DGet.k h1, q _ H02 H2 (g1.trans g2) (e1.trans e2) R2 ?_⟩
    show V.bl _ = V.bl _
    rw [lk_some k hl h2])
theorem evp_dnin {k : Key} {ks : List Key} {xs : List D} (ha : EvB K ta S (keyD k)) (hb : EvB K tb S (.dk ks xs)) : EvP K (orE (tOp (ninU K) ta tb) (tDNotIn ta tb)) S (.bl (!(lkD ks xs k).isSome)) := fun Pn pl G H0 H σ Rr Q q => .inr
  (ha Pn pl G H0 H σ Rr _ fun v H01 H1 g1 e1 R1 p1 => hb Pn pl G H01 H1 σ R1 _ fun w H02 H2 g2 e2 R2 p2 => by
    obtain ⟨a, vs, rfl, h1, hl, h2⟩ := p2.dk R2.e0
    rw [keyD_v p1]
    refine ⟨a, _, rfl, DGet.k h1, q _ H02 H2 (g1.trans g2) (e1.trans e2) R2 ?_⟩
    show V.bl _ = V.bl _
    rw [lk_some k hl h2])
/-- d.get(k, x) -/
theorem evp_dget2 {k : Key} {ks : List Key} {xs : List D} {tx : TE} (ha : EvB K ta S (.dk ks xs)) (hb : EvB K tb S (keyD k)) (hx : EvP K tx S z) : EvP K (tDGet2 ta tb tx) S ((lkD ks xs k).getD z) := fun Pn pl G H0 H σ Rr Q q =>
  ha Pn pl G H0 H σ Rr _ fun v H01 H1 g1 e1 R1 p1 => by
    obtain ⟨a, vs, rfl, h1, hl, h2⟩ := p1.dk R1.e0
    refine ⟨a, rfl, .inl ⟨_, .inl h1⟩, hb Pn pl G H01 H1 σ R1 _ fun w H02 H2 g2 e2 R2 p2 => hx Pn pl G H02 H2 σ R2 _ fun u H03 H3 g3 e3 R3 p3 => ?_⟩
    rw [keyD_v p2]
    refine ⟨_, DGet.k (e3 _ _ (e2 _ _ h1)), q _ H03 H3 ((g1.trans g2).trans g3) ((e1.trans e2).trans e3) R3 ?_⟩
    have hv := lk_val k hl h2
    cases q : lkD ks xs k with
    | none => rw [hv.2 q]; exact p3
    | some d => obtain ⟨v, e, r⟩ := hv.1 d q; rw [e]; exact Rp.mono (g2.ex.trans g3.ex) _ _ r
theorem evp_dget1 {k : Key} {ks : List Key} {xs : List D} (ha : EvB K ta S (.dk ks xs)) (hb : EvB K tb S (keyD k)) : EvP K (tDGet1 ta tb) S ((lkD ks xs k).getD .non) := fun Pn pl G H0 H σ Rr Q q =>
  ha Pn pl G H0 H σ Rr _ fun v H01 H1 g1 e1 R1 p1 => by
    obtain ⟨a, vs, rfl, h1, hl, h2⟩ := p1.dk R1.e0
    refine ⟨a, rfl, .inl ⟨_, .inl h1⟩, hb Pn pl G H01 H1 σ R1 _ fun w H02 H2 g2 e2 R2 p2 => ?_⟩
    rw [keyD_v p2]
    refine ⟨_, DGet.k (e2 _ _ h1), q _ H02 H2 (g1.trans g2) (e1.trans e2) R2 ?_⟩
    have hv := lk_val k hl h2
    cases q : lkD ks xs k with
    | none => rw [hv.2 q]; rfl
    | some d => obtain ⟨v, e, r⟩ := hv.1 d q; rw [e]; exact Rp.mono g2.ex _ _ r
/-! slices -/
def PtP (K : PySem.W.Frag) (to : TO) (S : List M) (o : Option Int) : Prop := ∀ Pn pl G H0 H σ, Rs K Pn pl G H0 H σ S → ∀ Q : Option Int → Hp → Prop, (∀ H0' H', Gr G H0 H0' → Ex H H' → Rs K Pn pl G H0' H' σ S → Q o H') → to σ H Q
theorem ptp_none : PtP K tNoPart S none := fun Pn pl G H0 H σ Rr Q q => q H0 H (Gr.refl _ _) (Ex.refl _) Rr
theorem ptp_some {i : Int} (h : EvP K te S (.int i)) : PtP K (tPart te) S (some i) := fun Pn pl G H0 H σ Rr Q q => h Pn pl G H0 H σ Rr _ fun v H01 H1 g1 e1 R1 p1 => ⟨i, p1, q H01 H1 g1 e1 R1⟩
def cutD (xs : List D) (lo hi : Option Int) : List D := (xs.drop (HT.sIx xs.length 0 lo)).take (HT.sIx xs.length xs.length hi - HT.sIx xs.length 0 lo)
theorem evf_sll {tl th : TO} {xs : List D} {lo hi : Option Int} (ha : EvB K te S (.lst xs)) (h1 : PtP K tl S lo) (h2 : PtP K th S hi) : EvF K (tSl (slU K) te tl th) S (.lst (cutD xs lo hi)) := fun Pn pl G H0 H σ Rr Q q =>
  ha Pn pl G H0 H σ Rr _ fun v H01 H1 g1 e1 R1 p1 => h1 Pn pl G H01 H1 σ R1 _ fun H02 H2 g2 e2 R2 => h2 Pn pl G H02 H2 σ R2 _ fun H03 H3 g3 e3 R3 => by
    obtain ⟨a, vs, rfl, k1, k2⟩ := (p1.mono (g2.ex.trans g3.ex) (e2.trans e3)).lst R3.e0
    refine .inl ⟨a, vs, rfl, sq_of k1, fun p hp => ?_⟩
    obtain ⟨R4, a1, b1, c1, e4⟩ := R3.new_own (o := .lst (cutV vs lo hi)) hp
    refine q p H03 _ ((g1.trans g2).trans g3) (((e1.trans e2).trans e3).trans e4) R4 a1 b1 c1 ⟨_, upd_same, ?_⟩
    unfold cutV cutD
    rw [← k2.length]
    exact (k2.drop _).take _
theorem evp_slt {tl th : TO} {xs : List D} {lo hi : Option Int} (ha : EvB K te S (.tup xs)) (h1 : PtP K tl S lo) (h2 : PtP K th S hi) : EvP K (tSl (slU K) te tl th) S (.tup (cutD xs lo hi)) := fun Pn pl G H0 H σ Rr Q q =>
  ha Pn pl G H0 H σ Rr _ fun v H01 H1 g1 e1 R1 p1 => h1 Pn pl G H01 H1 σ R1 _ fun H02 H2 g2 e2 R2 => h2 Pn pl G H02 H2 σ R2 _ fun H03 H3 g3 e3 R3 => by
    obtain ⟨a, vs, rfl, k0, k1, k2⟩ := (p1.mono (g2.ex.trans g3.ex) (e2.trans e3)).tup R3.e0
    refine .inr ⟨a, vs, rfl, st_of k1, fun hw => ?_, fun hw p hp => ?_⟩
    · refine q _ H03 H3 ((g1.trans g2).trans g3) ((e1.trans e2).trans e3) R3 ⟨a, vs, rfl, k0, ?_⟩
      rw [← k2.length] at hw
      have e : cutD xs lo hi = xs := by
        unfold cutD
        rw [hw.1, hw.2, List.drop_zero, Nat.sub_zero, List.take_length]
      rw [e]; exact k2
    · obtain ⟨g4, e4, R4⟩ := R3.lay (o := .tup (cutV vs lo hi)) hp
      refine q _ _ _ (((g1.trans g2).trans g3).trans g4) (((e1.trans e2).trans e3).trans e4) R4 ⟨p, _, rfl, upd_same, Rps.mono g4.ex _ _ ?_⟩
      unfold cutV cutD
      rw [← k2.length]
      exact (k2.drop _).take _
theorem cutD_to (xs : List D) (n : Nat) : cutD xs none (some (n : Int)) = xs.take n := by
  unfold cutD
  rw [HT.sIx_none, HT.sIx_nat, Nat.sub_zero, List.drop_zero]
  by_cases h : n ≤ xs.length
  · rw [Nat.min_eq_left h]
  · rw [Nat.min_eq_right (by omega), List.take_of_length_le (Nat.le_refl _), List.take_of_length_le (by omega)]
theorem cutD_from (xs : List D) (n : Nat) : cutD xs (some (n : Int)) none = xs.drop n := by
  unfold cutD
  rw [HT.sIx_none, HT.sIx_nat]
  by_cases h : n ≤ xs.length
  · rw [Nat.min_eq_left h, List.take_of_length_le (by rw [List.length_drop]; omega)]
  · rw [Nat.min_eq_right (by omega), List.drop_of_length_le (Nat.le_refl _), List.drop_of_length_le (by omega), List.take_nil]
theorem cutD_mid (xs : List D) (n m : Nat) : cutD xs (some (n : Int)) (some (m : Int)) = (xs.take m).drop n := by
  unfold cutD
  rw [HT.sIx_nat, HT.sIx_nat, List.drop_take]
  by_cases h : n ≤ xs.length
  · rw [Nat.min_eq_left h]
    by_cases k : m ≤ xs.length
    · rw [Nat.min_eq_left k]
    · rw [Nat.min_eq_right (by omega), List.take_of_length_le (by rw [List.length_drop]; omega), List.take_of_length_le (by rw [List.length_drop]; omega)]
  · rw [Nat.min_eq_right (show xs.length ≤ n by omega), List.drop_of_length_le (Nat.le_refl _), List.drop_of_length_le (show xs.length ≤ n by omega), List.take_nil, List.take_nil]
/-! isinstance -/
def tyN : D → Option String
  | .non => some "NoneType"
  | .bl _ => some "bool"
  | .int _ => some "int"
  | .str _ => some "str"
  | .tup _ => some "tuple"
  | .lst _ => some "list"
  | .dk _ _ => some "dict"
  | .dt _ _ => some "dict"
  | _ => none
theorem tyX_of {H : Hp} {n : String} {v : V} : ∀ {d : D}, tyN d = some n → Rp K H d v → TyX K H v (.type n)
  | .non, e, h => by cases e; cases (show v = .non from h); exact .base .non
  | .bl b, e, h => by cases e; cases (show v = .bl b from h); exact .base (.bl b)
  | .int b, e, h => by cases e; cases (show v = .int b from h); exact .base (.int b)
  | .str b, e, h => by cases e; cases (show v = .str b from h); exact .base (.str b)
  | .tup xs, e, h => by
    cases e
    unfold Rp at h
    obtain ⟨a, vs, rfl, h1, _⟩ := h
    exact .base (.tup h1)
  | .lst xs, e, h => by
    cases e
    unfold Rp at h
    obtain ⟨a, vs, rfl, h1, _⟩ := h
    exact .base (.lst h1)
  | .dk _ _, e, h => by
    cases e
    unfold Rp at h
    obtain ⟨a, vs, rfl, h1, _⟩ := h
    exact .base (.dK h1)
  | .dt _ _, e, h => by
    cases e
    unfold Rp at h
    obtain ⟨a, vs, rfl, h1, _⟩ := h
    exact .base (.dT h1)
  | .ins _ _ _, e, h => by cases e
  | .ty _, e, h => by cases e
theorem v_isi {n m : String} {b : Bool} (h : tyN x = some n) (hb : kitB n m = some b) : V2P K (r2 (rIsi K)) x (.ty m) (.bl b) := v2_done fun H0 H v w e hv hw =>
  ⟨.bl b, rfl, fun Q q => ⟨v, .ty m, .type n, .type m, b, by rw [hw.ty], .ty m, tyX_of h (hv.rp e), kit_ty hb, q⟩⟩
/-! fields -/
theorem lk_lookup {H : Hp} : ∀ {ns : List PySem.Str} {ds : List D} {vs : List V} (f : PySem.Str), ns.length = vs.length → Rps K H ds vs → ∀ d, lkD ns ds f = some d → ∃ v, (ns.zip vs).lookup f = some v ∧ Rp K H d v
  | [], ds, vs, f, hl, h => by cases ds <;> exact fun d e => by simp [lkD] at e
  | k :: ns, [], vs, f, hl, h => by
    have e : vs = [] := by unfold Rps at h; exact h
    subst e
    cases hl
  | k :: ns, x :: ds, vs, f, hl, h => by
    obtain ⟨v, r, rfl, h1, h2⟩ := (show ∃ v r, vs = v :: r ∧ Rp K H x v ∧ Rps K H ds r by unfold Rps at h; exact h)
    have hl' : ns.length = r.length := by simpa using hl
    intro d e
    rw [List.zip_cons_cons]
    by_cases q : k = f
    · subst q
      simp only [lkD, if_pos] at e
      cases e
      exact ⟨v, by simp [List.lookup], h1⟩
    · simp only [lkD, if_neg q] at e
      obtain ⟨w, e1, e2⟩ := lk_lookup f hl' h2 d e
      have hb : (f == k) = false := beq_eq_false_iff_ne.mpr fun z => q z.symm
      exact ⟨w, by simp only [List.lookup, hb]; exact e1, e2⟩
theorem evp_fld {C : Addr} {ns : List PySem.Str} {ds : List D} {f : PySem.Str} (c : Cls K C) (n : NoAttr K C f) (ha : EvB K ta S (.ins C ns ds)) (h : lkD ns ds f = some d) : EvP K (tFld K ta f) S d := fun Pn pl G H0 H σ Rr Q q =>
  ha Pn pl G H0 H σ Rr _ fun v H01 H1 g1 e1 R1 p1 => by
    obtain ⟨a, dx, vs, rfl, k1, hl, k2⟩ := p1.ins R1.e0
    obtain ⟨w, e1', e2'⟩ := lk_lookup f hl k2 d h
    exact ⟨a, C, dx, _, w, rfl, k1, c, n, e1', q w H01 H1 g1 e1 R1 e2'⟩
end
end Dl
/-! Statements, loops, comprehensions, over slots. -/
namespace Dl
open PySem L2 Evl

structure Post where
  nx : List M → Prop
  rt : D → List M → Prop
  bk : List M → Prop
  ct : List M → Prop
def StN (K : PySem.W.Frag) (Pn : List Nat) (ts : TS) (S : List M) (P : Post) : Prop := ∀ pl G H0 H σ, Rs K Pn pl G H0 H σ S → ∀ E : Ends,
  (∀ S' σ' H0' H', P.nx S' → Gr G H0 H0' → Rs K Pn pl G H0' H' σ' S' → E.nx σ' H') →
  (∀ d S' σ' v H0' H', P.rt d S' → Gr G H0 H0' → Rs K Pn pl G H0' H' σ' S' → Rp K H0' d v → E.rt v H') →
  (∀ S' σ' H0' H', P.bk S' → Gr G H0 H0' → Rs K Pn pl G H0' H' σ' S' → E.bk σ' H') →
  (∀ S' σ' H0' H', P.ct S' → Gr G H0 H0' → Rs K Pn pl G H0' H' σ' S' → E.ct σ' H') → ts E σ H

section
variable {K : PySem.W.Frag} {Pn : List Nat} {S : List M} {P : Post} {te ta tl : TE} {tt : TT} {t u : TS} {i : Nat} {x d : D}
/-- something is known less far back -/
theorem StN.weak {Q : Post} (h : StN K Pn t S Q) (h1 : ∀ S', Q.nx S' → P.nx S') (h2 : ∀ d S', Q.rt d S' → P.rt d S') (h3 : ∀ S', Q.bk S' → P.bk S') (h4 : ∀ S', Q.ct S' → P.ct S') : StN K Pn t S P :=
  fun pl G H0 H σ R E a b c e => h pl G H0 H σ R E (fun S' σ' H0' H' p => a S' σ' H0' H' (h1 _ p)) (fun d S' σ' v H0' H' p => b d S' σ' v H0' H' (h2 _ _ p)) (fun S' σ' H0' H' p => c S' σ' H0' H' (h3 _ p)) (fun S' σ' H0' H' p => e S' σ' H0' H' (h4 _ p))
theorem st_nil (h : P.nx S) : StN K Pn tNext S P := fun pl G H0 H σ R E a b c e => a S σ H0 H h (Gr.refl _ _) R
theorem st_seq (h : StN K Pn t S { P with nx := fun S' => StN K Pn u S' P }) : StN K Pn (tSeq t u) S P := fun pl G H0 H σ R E a b c e =>
  h pl G H0 H σ R { E with nx := u E } (fun S1 σ1 H01 H1 hu g1 R1 => hu pl G H01 H1 σ1 R1 E (fun S2 σ2 H02 H2 p g2 R2 => a S2 σ2 H02 H2 p (g1.trans g2) R2) (fun d S2 σ2 v H02 H2 p g2 R2 q => b d S2 σ2 v H02 H2 p (g1.trans g2) R2 q)
    (fun S2 σ2 H02 H2 p g2 R2 => c S2 σ2 H02 H2 p (g1.trans g2) R2) (fun S2 σ2 H02 H2 p g2 R2 => e S2 σ2 H02 H2 p (g1.trans g2) R2)) b c e
theorem st_brk (h : P.bk S) : StN K Pn tBreak S P := fun pl G H0 H σ R E a b c e => c S σ H0 H h (Gr.refl _ _) R
theorem st_cnt (h : P.ct S) : StN K Pn tCont S P := fun pl G H0 H σ R E a b c e => e S σ H0 H h (Gr.refl _ _) R
theorem st_ret (h : EvN K te S P.rt) : StN K Pn (tRet te) S P := fun pl G H0 H σ R E a b c e => h Pn pl G H0 H σ R _ fun d S' v H0' H' r g R' p => b d S' σ v H0' H' r g R' p
theorem st_retN (h : P.rt .non S) : StN K Pn tRetN S P := fun pl G H0 H σ R E a b c e => b .non S σ .non H0 H h (Gr.refl _ _) R rfl
theorem st_expr (h : EvN K te S fun _ S' => P.nx S') : StN K Pn (tDrop te) S P := fun pl G H0 H σ R E a b c e => h Pn pl G H0 H σ R _ fun d S' v H0' H' r g R' p => a S' σ H0' H' r g R'
theorem st_if (h : TpN K tt S fun b S' => (b = true → StN K Pn t S' P) ∧ (b = false → StN K Pn u S' P)) : StN K Pn (tIfS tt t u) S P := fun pl G H0 H σ R E a b c e =>
  h Pn pl G H0 H σ R _ fun k S1 H01 H1 ⟨k1, k2⟩ g1 R1 => by
    have fin : ∀ w : TS, StN K Pn w S1 P → w E σ H1 := fun w hw => hw pl G H01 H1 σ R1 E (fun S2 σ2 H02 H2 p g2 R2 => a S2 σ2 H02 H2 p (g1.trans g2) R2) (fun d S2 σ2 v H02 H2 p g2 R2 q => b d S2 σ2 v H02 H2 p (g1.trans g2) R2 q)
      (fun S2 σ2 H02 H2 p g2 R2 => c S2 σ2 H02 H2 p (g1.trans g2) R2) (fun S2 σ2 H02 H2 p g2 R2 => e S2 σ2 H02 H2 p (g1.trans g2) R2)
    cases k with
    | true => exact fin t (k1 rfl)
    | false => exact fin u (k2 rfl)
theorem st_set (hi : i ∉ Pn) (h : EvN K te S fun d S' => P.nx (S'.set i (.d d))) : StN K Pn (tAsg te (gName i)) S P := fun pl G H0 H σ R E a b c e =>
  h Pn pl G H0 H σ R _ fun d S' v H0' H' r g R' p => a _ _ H0' H' r g (R'.setd p hi)
theorem st_seto (hi : i ∉ Pn) (h : EvO K te S fun d S' => P.nx (S'.set i (.o d))) : StN K Pn (tAsg te (gName i)) S P := fun pl G H0 H σ R E a b c e =>
  h Pn pl G H0 H σ R _ fun d S' p H0' H' r g R' n0 ng ap o => a _ _ H0' H' r g (R'.seto n0 ng o ap hi)
/-- an own object becomes data for good -/
theorem st_frz {m : M} (hs : S[i]? = some m) (hm : m = .o x) (hi : i ∉ Pn) (h : StN K Pn t (S.set i (.d x)) P) : StN K Pn t S P := fun pl G H0 H σ R E a b c e => by
  subst hm
  obtain ⟨ov, h1, l, e1, h2, h3, h4⟩ := R.sl i _ hs
  subst e1
  have ap : ∀ (j : Nat) (m' : M), (S.set i .no)[j]? = some m' → m'.own = true → σ[j]? ≠ some (some (V.ref l)) := fun j m' hj ho z => by
    by_cases q : i = j
    · subst q
      rw [List.getElem?_set_self (List.getElem?_eq_some_iff.mp hs).1] at hj
      cases hj; cases ho
    · rw [List.getElem?_set_ne q] at hj
      exact q (R.ap i j _ m' hs hj rfl ho (by rw [h1, z]))
  have R1 : Rs K Pn pl G H0 H σ (S.set i .no) := by
    have := R.setn (ov := some (.ref l)) hi
    rwa [show σ.set i (some (V.ref l)) = σ from by
      apply List.ext_getElem?
      intro j
      by_cases q : i = j
      · subst q
        rw [List.getElem?_set_self (List.getElem?_eq_some_iff.mp h1).1, h1]
      · rw [List.getElem?_set_ne q]] at this
  obtain ⟨H1, g1, R2, rp⟩ := ro_frz R1 h2 h3 ap h4
  have R3 := R2.setd (i := i) (x := x) (v := .ref l) rp hi
  have e2 : σ.set i (some (V.ref l)) = σ := by
    apply List.ext_getElem?
    intro j
    by_cases q : i = j
    · subst q
      rw [List.getElem?_set_self (List.getElem?_eq_some_iff.mp h1).1, h1]
    · rw [List.getElem?_set_ne q]
  rw [e2, List.set_set] at R3
  exact h pl G H1 H σ R3 E (fun S2 σ2 H02 H2 p g2 R2 => a S2 σ2 H02 H2 p (g1.trans g2) R2) (fun d S2 σ2 v H02 H2 p g2 R2 q => b d S2 σ2 v H02 H2 p (g1.trans g2) R2 q)
    (fun S2 σ2 H02 H2 p g2 R2 => c S2 σ2 H02 H2 p (g1.trans g2) R2) (fun S2 σ2 H02 H2 p g2 R2 => e S2 σ2 H02 H2 p (g1.trans g2) R2)
theorem st_imp {S' : List M} (e : S = S') (h : StN K Pn t S' P) : StN K Pn t S P := e ▸ h
/-- what is known of an own object is opened -/
theorem st_open {φ : D → Prop} (hs : S[i]? = some (.e φ)) (h : ∀ x, φ x → StN K Pn t (S.set i (.o x)) P) : StN K Pn t S P := fun pl G H0 H σ R => by
  obtain ⟨ov, h1, l, x, hx, e1, h2, h3, h4⟩ := R.sl i _ hs
  subst e1
  refine h x hx pl G H0 H σ ?_
  refine ⟨by rw [List.length_set]; exact R.len, R.e0, R.eg, fun j m hj => ?_, fun p q a b ha hb hma hmb hs' => ?_, R.pin⟩
  · by_cases q : i = j
    · subst q
      rw [List.getElem?_set_self (List.getElem?_eq_some_iff.mp hs).1] at hj
      cases hj
      exact ⟨_, h1, l, rfl, h2, h3, h4⟩
    · rw [List.getElem?_set_ne q] at hj
      exact R.sl j m hj
  · have at_ : ∀ (c : Nat) (q : M), (S.set i (.o x))[c]? = some q → q.own = true → ∃ q' : M, S[c]? = some q' ∧ q'.own = true := fun c q hc hq => by
      by_cases z : i = c
      · subst z; exact ⟨_, hs, rfl⟩
      · rw [List.getElem?_set_ne z] at hc; exact ⟨q, hc, hq⟩
    obtain ⟨a', x1, x2⟩ := at_ p a ha hma
    obtain ⟨b', y1, y2⟩ := at_ q b hb hmb
    exact R.ap p q a' b' x1 y1 x2 y2 hs'
/-- what is known of an own object is closed -/
theorem Rs.close {G H0 H : Hp} {σ : L2.St} {pl : Nat → V} {φ : D → Prop} (R : Rs K Pn pl G H0 H σ S) (hs : S[i]? = some (.o x)) (hx : φ x) : Rs K Pn pl G H0 H σ (S.set i (.e φ)) := by
  obtain ⟨ov, h1, l, e1, h2, h3, h4⟩ := R.sl i _ hs
  subst e1
  refine ⟨by rw [List.length_set]; exact R.len, R.e0, R.eg, fun j m hj => ?_, fun p q a b ha hb hma hmb hs' => ?_, R.pin⟩
  · by_cases q : i = j
    · subst q
      rw [List.getElem?_set_self (List.getElem?_eq_some_iff.mp hs).1] at hj
      cases hj
      exact ⟨_, h1, l, x, hx, rfl, h2, h3, h4⟩
    · rw [List.getElem?_set_ne q] at hj
      exact R.sl j m hj
  · have at_ : ∀ (c : Nat) (q : M), (S.set i (.e φ))[c]? = some q → q.own = true → ∃ q' : M, S[c]? = some q' ∧ q'.own = true := fun c q hc hq => by
      by_cases z : i = c
      · subst z; exact ⟨_, hs, rfl⟩
      · rw [List.getElem?_set_ne z] at hc; exact ⟨q, hc, hq⟩
    obtain ⟨a', x1, x2⟩ := at_ p a ha hma
    obtain ⟨b', y1, y2⟩ := at_ q b hb hmb
    exact R.ap p q a' b' x1 y1 x2 y2 hs'
/-! ### own lists: append, pop; own dicts: d[k] = v; own instances: o.f = v; xs[i] = v -/
theorem evn_append {ys : List D} {R : D → List M → Prop} (h0 : S[i]? = some (.o (.lst ys))) (h : EvN K te S fun d S' => ∃ xs, S'[i]? = some (.o (.lst xs)) ∧ xs.length < 100000 ∧ R .non (S'.set i (.o (.lst (xs ++ [d]))))) :
    EvN K (tBM K "list" rAppend (tVar i) (tCons te tNil)) S R := fun Pn pl G H0 H σ Rr Q q => by
  obtain ⟨ov, h1, l, e1, h2, h3, vs, h4, h5⟩ := Rr.sl i _ h0
  subst e1
  refine ⟨_, h1, .inl ⟨rfl, vs, sq_of h4⟩, h Pn pl G H0 H σ Rr _ fun d S' v H0' H' ⟨xs, k1, k2, k3⟩ g R' p => ?_⟩
  obtain ⟨ov', h1', l', e1', h2', h3', vs', h4', h5'⟩ := R'.sl i _ k1
  subst e1'
  rw [h1] at h1'
  cases h1'
  refine ⟨l, vs', v, rfl, rfl, h4', sz_lt (by rw [← h5'.length]; exact k2), ?_⟩
  exact q .non _ .non H0' _ k3 g (R'.write (o := .lst (vs' ++ [v])) k1 rfl h1 ⟨_, upd_same, h5'.append ⟨v, [], rfl, p, rfl⟩⟩) rfl
theorem evn_pop {xs : List D} {R : D → List M → Prop} (h0 : S[i]? = some (.o (.lst (xs ++ [d])))) (r : R d (S.set i (.o (.lst xs)))) : EvN K (tBM0 K "list" rPop (tVar i)) S R := fun Pn pl G H0 H σ Rr Q q => by
  obtain ⟨ov, h1, l, e1, h2, h3, vs, h4, h5⟩ := Rr.sl i _ h0
  subst e1
  have hl := h5.length
  rw [List.length_append, List.length_singleton] at hl
  obtain ⟨w, hw, rw_⟩ := h5.get (i := xs.length) (d := d) (by rw [List.getElem?_append_right (Nat.le_refl _), Nat.sub_self]; rfl)
  refine ⟨_, h1, .inl ⟨rfl, vs, sq_of h4⟩, l, vs, w, rfl, rfl, h4, by rw [← hl, Nat.add_sub_cancel]; exact hw, ?_⟩
  refine q d _ w H0 _ r (Gr.refl _ _) (Rr.write (o := .lst vs.dropLast) h0 rfl h1 ⟨_, upd_same, ?_⟩) rw_
  have := h5.take xs.length
  rw [List.take_left] at this
  rwa [List.dropLast_eq_take, ← hl, Nat.add_sub_cancel]
/-- xs[k] = v -/
theorem st_setix {tb : TE} {j : Nat} (h0 : ∃ ys, S[i]? = some (.o (.lst ys))) (h : EvN K te S fun d S1 => (∃ ys, S1[i]? = some (.o (.lst ys))) ∧ EvN K tb S1 fun y S2 => ∃ (k : Int) (xs : List D), y = .int k ∧ S2[i]? = some (.o (.lst xs)) ∧ ixN xs.length k = some j ∧ P.nx (S2.set i (.o (.lst (xs.set j d))))) :
    StN K Pn (tAsg te (gSub (tVar i) tb rSetL)) S P := fun pl G H0 H σ Rr E a b c e => h Pn pl G H0 H σ Rr _ fun d S1 v H01 H1 ⟨⟨ys, k0⟩, h2⟩ g1 R1 p1 => by
  obtain ⟨ov, h1, l, e1, _, _, vs, h4, h5⟩ := R1.sl i _ k0
  subst e1
  refine ⟨_, h1, h2 Pn pl G H01 H1 σ R1 _ fun y S2 w H02 H2 ⟨k, xs, e2, k1, k2, k3⟩ g2 R2 p2 => ?_⟩
  subst e2
  obtain ⟨ov', h1', l', e1', h2', h3', vs', h4', h5'⟩ := R2.sl i _ k1
  subst e1'
  rw [h1] at h1'
  cases h1'
  refine ⟨l, vs', k, j, rfl, p2, h4', by rw [← h5'.length]; exact k2, ?_⟩
  refine a _ _ H02 _ k3 (g1.trans g2) (R2.write (o := .lst (vs'.set j v)) k1 rfl h1 ⟨_, upd_same, ?_⟩)
  exact Rps.set j h5' (Rp.mono g2.ex _ _ p1)
end
end Dl
/-! What is walked, targets, for, while, comprehensions, over slots. -/
namespace Dl
open PySem L2 Evl

/-- the iterator J gives the items ds in turn, as long as Src stands; their parts as H0 tells -/
structure Jk (K : PySem.W.Frag) (J : It) (Src H0 : Hp) (ds : List D) : Prop where
  go : ∀ (i : Nat) (H : Hp), Ex Src H → i < ds.length → J.go i H
  stop : ∀ (i : Nat) (H : Hp), Ex Src H → ds.length ≤ i → J.stop i H
  yld : ∀ (i : Nat) (H : Hp) (x : V) (H' : Hp) (d : D), Ex Src H → ds[i]? = some d → J.yld i H x H' →
    (H' = H ∧ Rp K H0 d x) ∨ ∃ (T : Addr) (es : List D) (vs : List V), H T = none ∧ H' = upd H T (.tup vs) ∧ x = .ref T ∧ d = .tup es ∧ Rps K H0 es vs
def WkB (K : PySem.W.Frag) (wi : TI) (S : List M) (ds : List D) : Prop := ∀ Pn pl G H0 H σ, Rs K Pn pl G H0 H σ S → ∀ R : It → Hp → Prop,
  (∀ J H0' H', Gr G H0 H0' → Ex H H' → Rs K Pn pl G H0' H' σ S → Jk K J H' H0' ds → R J H') → wi σ H R
def WkP (K : PySem.W.Frag) (wi : TI) (S : List M) (ds : List D) : Prop := ∀ Pn pl G H0 H σ, Rs K Pn pl G H0 H σ S → ∀ R : It → Hp → Prop,
  (∀ J H0' H', Gr G H0 H0' → Ex H H' → Rs K Pn pl G H0' H' σ S → Jk K J H0' H0' ds → R J H') → wi σ H R
/-- the walked thing is reckoned by what may change things -/
def WkN (K : PySem.W.Frag) (wi : TI) (S : List M) (R : List D → List M → Prop) : Prop := ∀ Pn pl G H0 H σ, Rs K Pn pl G H0 H σ S → ∀ Q : It → Hp → Prop,
  (∀ ds S' J H0' H', R ds S' → Gr G H0 H0' → Rs K Pn pl G H0' H' σ S' → Jk K J H0' H0' ds → Q J H') → wi σ H Q
section
variable {K : PySem.W.Frag} {S : List M} {tl ta tb : TE} {ds : List D} {wi : TI}
theorem Jk.mono {J : It} {A B H0 : Hp} (h : Jk K J A H0 ds) (e : Ex A B) : Jk K J B H0 ds := ⟨fun i H k => h.go i H (e.trans k), fun i H k => h.stop i H (e.trans k), fun i H x H' d k => h.yld i H x H' d (e.trans k)⟩
theorem WkP.b (h : WkP K wi S ds) : WkB K wi S ds := fun Pn pl G H0 H σ Rr R q => h Pn pl G H0 H σ Rr R fun J H0' H' g e R' j => q J H0' H' g e R' (j.mono R'.e0)
theorem WkP.n {R : List D → List M → Prop} (h : WkP K wi S ds) (r : R ds S) : WkN K wi S R := fun Pn pl G H0 H σ Rr Q q => h Pn pl G H0 H σ Rr Q fun J H0' H' g e R' j => q ds S J H0' H' r g R' j
theorem sqL_inj {K : PySem.W.Frag} {H : Hp} {a : Addr} {xs : List V} (h : H a = some (.lst xs)) : SqL K H a xs := sq_of h
theorem jk_list {a : Addr} {vs : List V} {Src H0 : Hp} (h : Src a = some (.lst vs)) (r : Rps K H0 ds vs) : Jk K (Itl K a) Src H0 ds where
  go := fun i H e hi => by
    have hl := r.length
    exact ⟨vs, vs[i]'(by omega), sq_of (e _ _ h), List.getElem?_eq_getElem _⟩
  stop := fun i H e hi => ⟨vs, sq_of (e _ _ h), by rw [← r.length]; exact hi⟩
  yld := fun i H x H' d e hd ⟨e1, k⟩ => by
    obtain ⟨v, hv, rv⟩ := r.get hd
    have := k vs (sq_of (e _ _ h))
    rw [hv] at this
    cases this
    exact .inl ⟨e1, rv⟩
theorem jk_tup {a : Addr} {vs : List V} {Src H0 : Hp} (h : Src a = some (.tup vs)) (r : Rps K H0 ds vs) : Jk K (Itt K a) Src H0 ds where
  go := fun i H e hi => by
    have hl := r.length
    exact ⟨vs, vs[i]'(by omega), st_of (e _ _ h), List.getElem?_eq_getElem _⟩
  stop := fun i H e hi => ⟨vs, st_of (e _ _ h), by rw [← r.length]; exact hi⟩
  yld := fun i H x H' d e hd ⟨e1, k⟩ => by
    obtain ⟨v, hv, rv⟩ := r.get hd
    have := k vs (st_of (e _ _ h))
    rw [hv] at this
    cases this
    exact .inl ⟨e1, rv⟩
theorem wkb_lst (h : EvB K tl S (.lst ds)) : WkB K (iSq K tl) S ds := fun Pn pl G H0 H σ Rr R q => .inl (h Pn pl G H0 H σ Rr _ fun v H0' H' g e R' p => by
  obtain ⟨a, vs, rfl, h1, h2⟩ := p.lst R'.e0
  exact ⟨a, rfl, ⟨vs, sq_of h1⟩, q _ H0' H' g e R' (jk_list h1 h2)⟩)
theorem wkp_lst (h : EvP K tl S (.lst ds)) : WkP K (iSq K tl) S ds := fun Pn pl G H0 H σ Rr R q => .inl (h Pn pl G H0 H σ Rr _ fun v H0' H' g e R' p => by
  obtain ⟨a, vs, rfl, h1, h2⟩ := (show ∃ a vs, v = V.ref a ∧ H0' a = some (.lst vs) ∧ Rps K H0' ds vs by unfold Rp at p; exact p)
  exact ⟨a, rfl, ⟨vs, sq_of (R'.e0 _ _ h1)⟩, q _ H0' H' g e R' (jk_list h1 h2)⟩)
theorem wkp_tup (h : EvP K tl S (.tup ds)) : WkP K (iSq K tl) S ds := fun Pn pl G H0 H σ Rr R q => .inr (h Pn pl G H0 H σ Rr _ fun v H0' H' g e R' p => by
  obtain ⟨a, vs, rfl, h1, h2⟩ := (show ∃ a vs, v = V.ref a ∧ H0' a = some (.tup vs) ∧ Rps K H0' ds vs by unfold Rp at p; exact p)
  exact ⟨a, rfl, ⟨vs, st_of (R'.e0 _ _ h1)⟩, q _ H0' H' g e R' (jk_tup h1 h2)⟩)
theorem wkn_lst {R : List D → List M → Prop} (h : EvN K tl S fun d S1 => ∃ ds, d = .lst ds ∧ R ds S1) : WkN K (iSq K tl) S R := fun Pn pl G H0 H σ Rr Q q => .inl (h Pn pl G H0 H σ Rr _ fun d S' v H0' H' ⟨ds, e, r⟩ g R' p => by
  subst e
  obtain ⟨a, vs, rfl, h1, h2⟩ := (show ∃ a vs, v = V.ref a ∧ H0' a = some (.lst vs) ∧ Rps K H0' ds vs by unfold Rp at p; exact p)
  exact ⟨a, rfl, ⟨vs, sq_of (R'.e0 _ _ h1)⟩, q ds S' _ H0' H' r g R' (jk_list h1 h2)⟩)
def rgD (lo : Int) (n : Nat) : List D := (List.range n).map fun i => .int (lo + (i : Nat))
theorem rgD_get {lo : Int} {n i : Nat} {d : D} (h : (rgD lo n)[i]? = some d) : i < n ∧ d = .int (lo + (i : Nat)) := by
  unfold rgD at h
  rw [List.getElem?_map] at h
  cases q : (List.range n)[i]? with
  | none => rw [q] at h; cases h
  | some j =>
    rw [q] at h
    obtain ⟨h1, h2⟩ := List.getElem?_eq_some_iff.mp q
    rw [List.getElem_range] at h2
    rw [List.length_range] at h1
    subst h2
    cases h
    exact ⟨h1, rfl⟩
theorem jk_rng {lo : Int} {n : Nat} {Src H0 : Hp} : Jk K (Itr lo n) Src H0 (rgD lo n) where
  go := fun i H e hi => by show i < n; simpa [rgD] using hi
  stop := fun i H e hi => by show n ≤ i; simpa [rgD] using hi
  yld := fun i H x H' d e hd ⟨e1, k⟩ => .inl ⟨e1, by obtain ⟨_, rfl⟩ := rgD_get hd; exact k⟩
theorem wkp_rng1 {n : Nat} (h : EvB K ta S (.int n)) (hn : n ≤ 100000) : WkP K (iRng1 (tCons ta tNil)) S (rgD 0 n) := fun Pn pl G H0 H σ Rr R q => h Pn pl G H0 H σ Rr _ fun v H0' H' g e R' p => by
  refine ⟨(n : Int), by rw [p.int], by omega, by omega, ?_⟩
  exact q _ H0' H' g e R' jk_rng
theorem wkn_rng1 {R : List D → List M → Prop} (h : EvN K ta S fun d S1 => ∃ n : Nat, d = .int n ∧ n ≤ 100000 ∧ R (rgD 0 n) S1) : WkN K (iRng1 (tCons ta tNil)) S R := fun Pn pl G H0 H σ Rr Q q => h Pn pl G H0 H σ Rr _ fun d S' v H0' H' ⟨n, e, hn, r⟩ g R' p => by
  subst e
  have p' : v = .int n := p
  refine ⟨(n : Int), by rw [p'], by omega, by omega, ?_⟩
  exact q _ S' _ H0' H' r g R' jk_rng
theorem wkp_rng2 {lo hi : Int} (h1 : EvB K ta S (.int lo)) (h2 : EvB K tb S (.int hi)) (hb : -100000 ≤ lo ∧ lo ≤ 100000 ∧ -100000 ≤ hi ∧ hi ≤ 100000) : WkP K (iRng2 (tCons ta (tCons tb tNil))) S (rgD lo (hi - lo).toNat) := fun Pn pl G H0 H σ Rr R q =>
  h1 Pn pl G H0 H σ Rr _ fun v H01 H1 g1 e1 R1 p1 => h2 Pn pl G H01 H1 σ R1 _ fun w H02 H2 g2 e2 R2 p2 => by
    refine ⟨lo, hi, by rw [p1.int, p2.int], by omega, ?_⟩
    exact q _ H02 H2 (g1.trans g2) (e1.trans e2) R2 jk_rng
def enD (ds : List D) : List D := ds.mapIdx fun i d => .tup [.int (i : Nat), d]
theorem jk_enum {a : Addr} {vs : List V} {Src H0 : Hp} (h : Src a = some (.lst vs)) (r : Rps K H0 ds vs) : Jk K (Ite K a) Src H0 (enD ds) where
  go := fun i H e hi => by
    have hl := r.length
    have hi' : i < ds.length := by simpa [enD] using hi
    exact ⟨vs, vs[i]'(by omega), sq_of (e _ _ h), List.getElem?_eq_getElem _⟩
  stop := fun i H e hi => ⟨vs, sq_of (e _ _ h), by rw [← r.length]; simpa [enD] using hi⟩
  yld := fun i H x H' d e hd ⟨T, w, e1, hT, e2, k⟩ => by
    unfold enD at hd
    rw [List.getElem?_mapIdx] at hd
    cases q : ds[i]? with
    | none => rw [q] at hd; cases hd
    | some y =>
      rw [q] at hd
      cases hd
      obtain ⟨v, hv, rv⟩ := r.get q
      have := k vs (sq_of (e _ _ h))
      rw [hv] at this
      cases this
      exact .inr ⟨T, _, _, hT, e2, e1, rfl, _, _, rfl, rfl, _, _, rfl, rv, rfl⟩
theorem wkb_enum (h : EvB K tl S (.lst ds)) : WkB K (iEnum K (tCons tl tNil)) S (enD ds) := fun Pn pl G H0 H σ Rr R q => h Pn pl G H0 H σ Rr _ fun v H0' H' g e R' p => by
  obtain ⟨a, vs, rfl, h1, h2⟩ := p.lst R'.e0
  exact ⟨a, vs, rfl, sq_of h1, q _ H0' H' g e R' (jk_enum h1 h2)⟩
theorem wkp_enum (h : EvP K tl S (.lst ds)) : WkP K (iEnum K (tCons tl tNil)) S (enD ds) := fun Pn pl G H0 H σ Rr R q => h Pn pl G H0 H σ Rr _ fun v H0' H' g e R' p => by
  obtain ⟨a, vs, rfl, h1, h2⟩ := (show ∃ a vs, v = V.ref a ∧ H0' a = some (.lst vs) ∧ Rps K H0' ds vs by unfold Rp at p; exact p)
  exact ⟨a, vs, rfl, sq_of (R'.e0 _ _ h1), q _ H0' H' g e R' (jk_enum h1 h2)⟩
end

/-! ### targets -/
/-- the target g gives its names (at vs) what x is worth -/
structure GtP (K : PySem.W.Frag) (g : TG) (vs : List Nat) (S : List M) (x : D) (S2 : List M) : Prop where
  out : ∀ i, i ∉ vs → S2[i]? = S[i]?
  len : S2.length = S.length
  run : ∀ Pn pl G H0 H σ v, (∀ i ∈ vs, i ∉ Pn) → Rs K Pn pl G H0 H σ S → Rp K H0 x v → ∀ Q : L2.St → Hp → Prop,
    (∀ σ2, Rs K Pn pl G H0 H σ2 S2 → (∀ i, i ∉ vs → σ2[i]? = σ[i]?) → Q σ2 H) → g v σ H Q
structure GtsP (K : PySem.W.Frag) (g : TGs) (vs : List Nat) (S : List M) (xs : List D) (S2 : List M) : Prop where
  out : ∀ i, i ∉ vs → S2[i]? = S[i]?
  len : S2.length = S.length
  run : ∀ Pn pl G H0 H σ ws, (∀ i ∈ vs, i ∉ Pn) → Rs K Pn pl G H0 H σ S → Rps K H0 xs ws → ∀ Q : L2.St → Hp → Prop,
    (∀ σ2, Rs K Pn pl G H0 H σ2 S2 → (∀ i, i ∉ vs → σ2[i]? = σ[i]?) → Q σ2 H) → g ws σ H Q
section
variable {K : PySem.W.Frag} {S S1 S2 : List M} {x : D} {xs : List D} {g : TG} {gs : TGs} {vs us : List Nat} {Pn : List Nat} {P : Post} {te : TE} {tb : TS} {tt : TT} {wi : TI}
theorem gt_name {j : Nat} : GtP K (gName j) [j] S x (S.set j (.d x)) := ⟨fun i hi => List.getElem?_set_ne fun e => hi (by simp [e]), List.length_set, fun Pn pl G H0 H σ v hv R p Q q =>
  q _ (R.setd p (hv j (by simp))) fun i hi => List.getElem?_set_ne fun e => hi (by simp [e])⟩
theorem gts_nil : GtsP K gNil [] S [] S := ⟨fun _ _ => rfl, rfl, fun Pn pl G H0 H σ ws hv R p Q q => ⟨by unfold Rps at p; exact p, q σ R fun _ _ => rfl⟩⟩
theorem gts_cons (h : GtP K g us S x S1) (k : GtsP K gs vs S1 xs S2) : GtsP K (gCons g gs) (us ++ vs) S (x :: xs) S2 :=
  ⟨fun i hi => by rw [k.out i fun z => hi (List.mem_append_right _ z), h.out i fun z => hi (List.mem_append_left _ z)], by rw [k.len, h.len], fun Pn pl G H0 H σ ws hv R p Q q => by
    obtain ⟨v, r, rfl, h1, h2⟩ := (show ∃ v r, ws = v :: r ∧ Rp K H0 x v ∧ Rps K H0 xs r by unfold Rps at p; exact p)
    refine ⟨v, r, rfl, h.run Pn pl G H0 H σ v (fun i hi => hv i (List.mem_append_left _ hi)) R h1 _ fun σ1 R1 k1 => k.run Pn pl G H0 H σ1 r (fun i hi => hv i (List.mem_append_right _ hi)) R1 h2 _ fun σ2 R2 k2 => q σ2 R2 fun i hi => ?_⟩
    rw [k2 i fun z => hi (List.mem_append_right _ z), k1 i fun z => hi (List.mem_append_left _ z)]⟩
theorem gt_tup {n : Nat} (h : GtsP K gs vs S xs S2) (hn : xs.length = n) : GtP K (gTup K n gs) vs S (.tup xs) S2 := ⟨h.out, h.len, fun Pn pl G H0 H σ v hv R p Q q => by
  obtain ⟨a, ws, rfl, h1, h2⟩ := (show ∃ a ws, v = V.ref a ∧ H0 a = some (.tup ws) ∧ Rps K H0 xs ws by unfold Rp at p; exact p)
  exact ⟨a, ws, rfl, st_of (R.e0 _ _ h1), by rw [← h2.length]; exact hn, h.run Pn pl G H0 H σ ws hv R h2 Q q⟩⟩
theorem gt_pair {i j : Nat} {y : D} : GtP K (gTup K 2 (gCons (gName i) (gCons (gName j) gNil))) [i, j] S (.tup [x, y]) ((S.set i (.d x)).set j (.d y)) := gt_tup (vs := [i, j]) (gts_cons (us := [i]) (vs := [j]) gt_name (gts_cons (us := [j]) (vs := []) gt_name gts_nil)) rfl
theorem gt_tri {i j k : Nat} {y z : D} : GtP K (gTup K 3 (gCons (gName i) (gCons (gName j) (gCons (gName k) gNil)))) [i, j, k] S (.tup [x, y, z]) (((S.set i (.d x)).set j (.d y)).set k (.d z)) :=
  gt_tup (vs := [i, j, k]) (gts_cons (us := [i]) (vs := [j, k]) gt_name (gts_cons (us := [j]) (vs := [k]) gt_name (gts_cons (us := [k]) (vs := []) gt_name gts_nil))) rfl
/-- an assignment to any target -/
theorem st_asg (hv : ∀ i ∈ vs, i ∉ Pn) (h : EvN K te S fun d S1 => ∃ S2, GtP K g vs S1 d S2 ∧ P.nx S2) : StN K Pn (tAsg te g) S P := fun pl G H0 H σ R E a b c e =>
  h Pn pl G H0 H σ R _ fun d S1 v H0' H' ⟨S2, hg, hn⟩ gr R1 p => hg.run Pn pl G H0' H' σ v hv R1 p _ fun σ2 R2 _ => a _ _ H0' H' hn gr R2
/-! ### for -/
theorem st_forN (I : List D → Nat → List M → Prop) (wk : WkN K wi S fun ds S1 => I ds 0 S1) (hv : ∀ i ∈ vs, i ∉ Pn)
    (ht : ∀ ds i d S', ds[i]? = some d → I ds i S' → ∃ S2, GtP K g vs S' d S2 ∧ StN K Pn tb S2 ⟨I ds (i + 1), P.rt, P.nx, I ds (i + 1)⟩) (hd : ∀ (ds : List D) S', I ds ds.length S' → P.nx S') : StN K Pn (tFor wi g tb) S P := fun pl G H0 H σ R E a b c e =>
  wk Pn pl G H0 H σ R _ fun ds S1 J H01 H1 hI g1 R1 jk => by
    refine ⟨fun i m σ' H' => m = ds.length - i ∧ i ≤ ds.length ∧ ∃ S' H0', I ds i S' ∧ Gr G H01 H0' ∧ Rs K Pn pl G H0' H' σ' S', ⟨ds.length, by simp, Nat.zero_le _, S1, H01, hI, Gr.refl _ _, R1⟩, ?_⟩
    rintro i m σ' H' ⟨rfl, hi, S', H0', hI', g', R'⟩
    have src : Ex H01 H' := g'.ex.trans R'.e0
    by_cases hlt : i < ds.length
    · refine .inr ⟨jk.go i H' src hlt, fun σ2 H2 => ∃ S2 H02, I ds (i + 1) S2 ∧ Gr G H01 H02 ∧ Rs K Pn pl G H02 H2 σ2 S2, fun σ2 H2 ⟨S2, H02, k1, k2, k3⟩ => ⟨ds.length - (i + 1), by omega, rfl, hlt, S2, H02, k1, k2, k3⟩, fun x H2 y => ?_⟩
      have hd' : ds[i]? = some ds[i] := List.getElem?_eq_getElem hlt
      obtain ⟨S2, hg, hb⟩ := ht ds i _ S' hd' hI'
      have fin : ∀ (H02 H2 : Hp), Gr G H0' H02 → Rs K Pn pl G H02 H2 σ' S' → Rp K H02 ds[i] x → g x σ' H2 fun σ2 H2 => tb { E with nx := fun σ2 H2 => ∃ S2 H02, I ds (i + 1) S2 ∧ Gr G H01 H02 ∧ Rs K Pn pl G H02 H2 σ2 S2, ct := fun σ2 H2 => ∃ S2 H02, I ds (i + 1) S2 ∧ Gr G H01 H02 ∧ Rs K Pn pl G H02 H2 σ2 S2, bk := E.nx } σ2 H2 :=
        fun H02 H2 g2 R2 p => hg.run Pn pl G H02 H2 σ' x hv R2 p _ fun σ3 R3 _ => hb pl G H02 H2 σ3 R3 _ (fun S4 σ4 H04 H4 k1 k2 k3 => ⟨S4, H04, k1, (g'.trans g2).trans k2, k3⟩)
          (fun d S4 σ4 v H04 H4 k1 k2 k3 k4 => b d S4 σ4 v H04 H4 k1 (((g1.trans g').trans g2).trans k2) k3 k4) (fun S4 σ4 H04 H4 k1 k2 k3 => a S4 σ4 H04 H4 k1 (((g1.trans g').trans g2).trans k2) k3) (fun S4 σ4 H04 H4 k1 k2 k3 => ⟨S4, H04, k1, (g'.trans g2).trans k2, k3⟩)
      rcases jk.yld i H' x H2 _ src hd' y with ⟨e1, rp⟩ | ⟨T, es, ws, hT, e1, e2, e3, rp⟩
      · subst e1
        exact fin H0' H2 (Gr.refl _ _) R' (Rp.mono g'.ex _ _ rp)
      · subst e1
        subst e2
        obtain ⟨g2, e4, R2⟩ := R'.lay (o := .tup ws) hT
        refine fin _ _ g2 R2 ?_
        rw [e3]
        exact ⟨T, ws, rfl, upd_same, Rps.mono (g'.ex.trans g2.ex) _ _ rp⟩
    · have ei : i = ds.length := by omega
      subst ei
      exact .inl ⟨jk.stop _ H' src (Nat.le_refl _), a S' σ' H0' H' (hd ds S' hI') (g1.trans g') R'⟩
theorem st_for (I : Nat → List M → Prop) {ds : List D} (wk : WkP K wi S ds) (hv : ∀ i ∈ vs, i ∉ Pn) (h0 : I 0 S)
    (ht : ∀ i d S', ds[i]? = some d → I i S' → ∃ S2, GtP K g vs S' d S2 ∧ StN K Pn tb S2 ⟨I (i + 1), P.rt, P.nx, I (i + 1)⟩) (hd : ∀ S', I ds.length S' → P.nx S') : StN K Pn (tFor wi g tb) S P :=
  st_forN (fun es i S' => es = ds ∧ I i S') (wk.n ⟨rfl, h0⟩) hv (fun es i d S' hq ⟨e, hI⟩ => by
    rw [e] at hq
    obtain ⟨S2, k1, k2⟩ := ht i d S' hq hI
    exact ⟨S2, k1, k2.weak (fun _ h => ⟨e, h⟩) (fun _ _ h => h) (fun _ h => h) fun _ h => ⟨e, h⟩⟩) fun es S' ⟨e, hI⟩ => by subst e; exact hd S' hI
/-- over the items of a type, by the part taken -/
theorem st_forT {α : Type} (I : List α → List M → Prop) {xs : List α} {f : α → D} (wk : WkP K wi S (xs.map f)) (hv : ∀ i ∈ vs, i ∉ Pn) (h0 : I [] S)
    (ht : ∀ pre a post S', xs = pre ++ a :: post → I pre S' → ∃ S2, GtP K g vs S' (f a) S2 ∧ StN K Pn tb S2 ⟨I (pre ++ [a]), P.rt, P.nx, I (pre ++ [a])⟩) (hd : ∀ S', I xs S' → P.nx S') : StN K Pn (tFor wi g tb) S P := by
  refine st_for (fun i S' => I (xs.take i) S') wk hv h0 (fun i d S' hd' hI => ?_) fun S' hI => hd S' (by rw [List.length_map, List.take_length] at hI; exact hI)
  rw [List.getElem?_map] at hd'
  cases q : xs[i]? with
  | none => rw [q] at hd'; cases hd'
  | some a =>
    rw [q] at hd'
    cases hd'
    obtain ⟨hl, ha⟩ := List.getElem?_eq_some_iff.mp q
    have e1 : xs = xs.take i ++ a :: xs.drop (i + 1) := by
      have e := (List.take_append_drop i xs).symm
      rw [List.drop_eq_getElem_cons hl, ha] at e
      exact e
    obtain ⟨S2, k1, k2⟩ := ht (xs.take i) a (xs.drop (i + 1)) S' e1 hI
    have e2 : xs.take i ++ [a] = xs.take (i + 1) := by rw [List.take_add_one, q]; rfl
    rw [e2] at k2
    exact ⟨S2, k1, k2⟩
/-! ### while -/
theorem st_while (W : Nat → List M → Prop) {m0 : Nat} (h0 : W m0 S) (ht : ∀ m S', W m S' → TpN K tt S' fun b S1 => (b = true → StN K Pn tb S1 ⟨fun S2 => ∃ m', m' < m ∧ W m' S2, P.rt, P.nx, fun S2 => ∃ m', m' < m ∧ W m' S2⟩) ∧ (b = false → P.nx S1)) : StN K Pn (tWhile tt tb) S P :=
  fun pl G H0 H σ R E a b c e => by
    refine ⟨fun m σ' H' => ∃ S' H0', W m S' ∧ Gr G H0 H0' ∧ Rs K Pn pl G H0' H' σ' S', ⟨m0, S, H0, h0, Gr.refl _ _, R⟩, ?_⟩
    rintro m σ' H' ⟨S', H0', hW, g', R'⟩
    refine ht m S' hW Pn pl G H0' H' σ' R' _ fun k S1 H01 H1 ⟨k1, k2⟩ g1 R1 => ?_
    cases k with
    | true =>
      rw [if_pos rfl]
      refine ⟨fun σ2 H2 => ∃ m', m' < m ∧ ∃ S2 H02, W m' S2 ∧ Gr G H0 H02 ∧ Rs K Pn pl G H02 H2 σ2 S2, fun σ2 H2 ⟨m', hm, S2, H02, z⟩ => ⟨m', hm, S2, H02, z⟩, k1 rfl pl G H01 H1 σ' R1 _ ?_ ?_ ?_ ?_⟩
      · exact fun S2 σ2 H02 H2 ⟨m', hm, hw⟩ g2 R2 => ⟨m', hm, S2, H02, hw, (g'.trans g1).trans g2, R2⟩
      · exact fun d S2 σ2 v H02 H2 p g2 R2 q => b d S2 σ2 v H02 H2 p ((g'.trans g1).trans g2) R2 q
      · exact fun S2 σ2 H02 H2 p g2 R2 => a S2 σ2 H02 H2 p ((g'.trans g1).trans g2) R2
      · exact fun S2 σ2 H02 H2 ⟨m', hm, hw⟩ g2 R2 => ⟨m', hm, S2, H02, hw, (g'.trans g1).trans g2, R2⟩
    | false =>
      rw [if_neg Bool.false_ne_true]
      exact a S1 σ' H01 H1 (k2 rfl) (g'.trans g1) R1
end
end Dl
/-! Comprehensions over slots. -/
namespace Dl
open PySem L2 Evl

def wipeM (S : List M) : List Nat → List M
  | [] => S
  | v :: vs => (wipeM S vs).set v .no
def M.ro : M → M
  | .o x => .b x
  | .e _ => .no
  | m => m
section
variable {K : PySem.W.Frag} {Pn : List Nat} {pl : Nat → V} {G H0 H H1 H2 : Hp} {σ : L2.St} {S : List M} {vs : List Nat}
theorem wipeM_len : ∀ vs : List Nat, (wipeM S vs).length = S.length
  | [] => rfl
  | v :: vs => by unfold wipeM; rw [List.length_set, wipeM_len vs]
theorem wipeM_out {i : Nat} : ∀ {vs : List Nat}, i ∉ vs → (wipeM S vs)[i]? = S[i]?
  | [], _ => rfl
  | v :: vs, h => by
    unfold wipeM
    rw [List.getElem?_set_ne fun e => h (by simp [e]), wipeM_out fun z => h (List.mem_cons_of_mem _ z)]
theorem wipeM_in {i : Nat} {m : M} : ∀ {vs : List Nat}, i ∈ vs → (wipeM S vs)[i]? = some m → m = .no
  | v :: vs, h, e => by
    unfold wipeM at e
    by_cases q : v = i
    · subst q
      have hl := (List.getElem?_eq_some_iff.mp e).1
      rw [List.length_set] at hl
      rw [List.getElem?_set_self hl] at e
      cases e; rfl
    · rw [List.getElem?_set_ne q] at e
      exact wipeM_in ((List.mem_cons.mp h).resolve_left fun z => q z.symm) e
theorem wipe_ext {a b : L2.St} : ∀ (vs : List Nat), a.length = b.length → (∀ i, i ∉ vs → a[i]? = b[i]?) → wipe a vs = wipe b vs := fun vs hl h => by
  apply List.ext_getElem?
  intro i
  by_cases q : i ∈ vs
  · have key : ∀ (c : L2.St) (us : List Nat), i ∈ us → (wipe c us)[i]? = if i < c.length then some none else none := fun c us => by
      induction us with
      | nil => intro h; cases h
      | cons u us ih =>
        intro h
        unfold wipe
        by_cases z : u = i
        · subst z
          by_cases hi : u < c.length
          · rw [List.getElem?_set_self (by rw [wipe_length]; exact hi), if_pos hi]
          · rw [if_neg hi]
            exact List.getElem?_eq_none_iff.mpr (by rw [List.length_set, wipe_length]; omega)
        · rw [List.getElem?_set_ne z]
          exact ih ((List.mem_cons.mp h).resolve_left fun w => z w.symm)
    rw [key a vs q, key b vs q, hl]
  · rw [wipe_out q, wipe_out q, h i q]
/-- slots forgotten -/
theorem Rs.wiped (R : Rs K Pn pl G H0 H σ S) : ∀ vs : List Nat, (∀ i ∈ vs, i ∉ Pn) → Rs K Pn pl G H0 H (wipe σ vs) (wipeM S vs)
  | [], _ => R
  | v :: vs, h => (Rs.wiped R vs fun i hi => h i (List.mem_cons_of_mem _ hi)).setn (h v (by simp))
theorem Rs.nopin (R : Rs K Pn pl G H0 H σ S) : Rs K [] pl G H0 H σ S := ⟨R.len, R.e0, R.eg, R.sl, R.ap, fun i hi => by cases hi⟩
/-- all of the heap is kept: own objects are read only -/
theorem Rs.ro (R : Rs K [] pl G H0 H σ S) : Rs K [] pl H H0 H σ (S.map M.ro) where
  len := by rw [List.length_map]; exact R.len
  e0 := R.e0
  eg := Ex.refl _
  sl := fun i m h => by
    rw [List.getElem?_map] at h
    cases q : S[i]? with
    | none => rw [q] at h; cases h
    | some n =>
      rw [q] at h
      cases h
      obtain ⟨ov, h1, h2⟩ := R.sl i n q
      refine ⟨ov, h1, ?_⟩
      cases n with
      | no => trivial
      | e φ => trivial
      | d x => exact h2
      | b x => obtain ⟨l, k1, k2⟩ := h2; exact ⟨l, k1, k2.mono R.eg⟩
      | q ns => obtain ⟨l, k1, k2⟩ := h2; exact ⟨l, k1, ex_l R.eg k2⟩
      | o x => obtain ⟨l, k1, _, _, k2⟩ := h2; exact ⟨l, k1, k2⟩
  ap := fun i j a b ha hb hma => by
    rw [List.getElem?_map] at ha
    cases q : S[i]? with
    | none => rw [q] at ha; cases ha
    | some n =>
      rw [q] at ha
      cases ha
      cases n <;> cases hma
  pin := fun i hi => by cases hi
theorem ro_noown {i : Nat} {m : M} (h : (S.map M.ro)[i]? = some m) : m.own = false := by
  rw [List.getElem?_map] at h
  cases q : S[i]? with
  | none => rw [q] at h; cases h
  | some n => rw [q] at h; cases h; cases n <;> rfl
/-- the heap has gone on -/
theorem Rs.fwd (R : Rs K Pn pl G H0 H σ S) (ex : Ex H0 H1) (e : Ex H H2) (e0 : Ex H1 H2) (hn : ∀ (i : Nat) (m : M) (l : Addr), S[i]? = some m → m.own = true → σ[i]? = some (some (.ref l)) → H0 l = none → H l ≠ none → H1 l = none) : Rs K Pn pl G H1 H2 σ S where
  len := R.len
  e0 := e0
  eg := R.eg.trans e
  sl := fun i m h => by
    obtain ⟨ov, h1, h2⟩ := R.sl i m h
    refine ⟨ov, h1, ?_⟩
    cases m with
    | no => trivial
    | d x => obtain ⟨v, k1, k2⟩ := h2; exact ⟨v, k1, Rp.mono ex _ _ k2⟩
    | b x => obtain ⟨l, k1, k2⟩ := h2; exact ⟨l, k1, k2.mono0 ex⟩
    | q ns => exact h2
    | o x => obtain ⟨l, k1, k2, k3, k4⟩ := h2; exact ⟨l, k1, hn i _ l h rfl (by rw [h1, k1]) k2 k4.some, k3, (k4.mono0 ex).mono e⟩
    | e φ => obtain ⟨l, x, kx, k1, k2, k3, k4⟩ := h2; exact ⟨l, x, kx, k1, hn i _ l h rfl (by rw [h1, k1]) k2 k4.some, k3, (k4.mono0 ex).mono e⟩
  ap := R.ap
  pin := R.pin
theorem Rs.addG (R : Rs K Pn pl G H0 H σ S) {p : Addr} {o : HO} (hg : G p = none) (hp : H p = some o) (hs : ∀ (i : Nat) (m : M), S[i]? = some m → m.own = true → σ[i]? ≠ some (some (V.ref p))) : Rs K Pn pl (upd G p o) H0 H σ S where
  len := R.len
  e0 := R.e0
  eg := fun a u e => by
    by_cases q : a = p
    · rw [q, upd_same] at e; cases e; rw [q]; exact hp
    · rw [upd_ne q] at e; exact R.eg a u e
  sl := fun i m h => by
    obtain ⟨ov, h1, h2⟩ := R.sl i m h
    refine ⟨ov, h1, ?_⟩
    cases m with
    | no => trivial
    | d x => exact h2
    | b x => obtain ⟨l, k1, k2⟩ := h2; exact ⟨l, k1, k2.mono (Ex.new hg)⟩
    | q ns => obtain ⟨l, k1, k2⟩ := h2; exact ⟨l, k1, ex_l (Ex.new hg) k2⟩
    | o x => obtain ⟨l, k1, k2, k3, k4⟩ := h2; exact ⟨l, k1, k2, by rw [upd_ne fun z => hs i _ h rfl (by rw [h1, k1, z])]; exact k3, k4⟩
    | e φ => obtain ⟨l, x, kx, k1, k2, k3, k4⟩ := h2; exact ⟨l, x, kx, k1, k2, by rw [upd_ne fun z => hs i _ h rfl (by rw [h1, k1, z])]; exact k3, k4⟩
  ap := R.ap
  pin := R.pin
theorem Gr.sub {G' A B : Hp} (g : Gr G A B) (h : ∀ a, G' a ≠ none → G a ≠ none) : Gr G' A B := ⟨g.ex, fun a k => g.new a (h a k)⟩
theorem Gr.out {A B : Hp} {p : Addr} (g : Gr G A B) (hg : G p ≠ none) (ha : A p = none) : B p = none := by
  cases q : B p with
  | none => rfl
  | some o => exact absurd ha (g.new p hg (by rw [q]; exact fun z => nomatch z))

/-- a comprehension that changes nothing: a new list -/
theorem evf_lc {α : Type} {xs : List α} {f r : α → D} {p : α → Bool} {wi : TI} {g : TG} {tt : TT} {te : TE} (wk : WkB K wi S (xs.map f)) (hl : xs.length ≤ 50000)
    (ht : ∀ a, a ∈ xs → ∃ S2, GtP K g vs ((wipeM S vs).map M.ro) (f a) S2 ∧ TpP K tt S2 (p a) ∧ (p a = true → EvP K te S2 (r a))) : EvF K (tLc wi g tt te vs) S (.lst ((xs.filter p).map r)) := fun Pn pl G H0 H σ Rr Q q =>
  wk Pn pl G H0 H σ Rr _ fun J H01 H1 g1 e1 R1 jk D hD => by
    obtain ⟨d0, dg, dap⟩ := R1.own_new hD
    have Ri : Rs K [] pl H1 H01 H1 (wipe σ vs) ((wipeM S vs).map M.ro) := (R1.nopin.wiped vs fun i _ => by simp).ro
    have none_own : ∀ (i : Nat) (m : M) (l : Addr) {τ : L2.St} {A B C : Hp}, ((wipeM S vs).map M.ro)[i]? = some m → m.own = true → τ[i]? = some (some (V.ref l)) → A l = none → B l ≠ none → C l = none := fun i m l τ A B C h ho => by rw [ro_noown h] at ho; cases ho
    refine ⟨fun i m H' => m = xs.length - i ∧ i ≤ xs.length ∧ ∃ ws H0', H' D = some (.lst ws) ∧ Rps K H0' (((xs.take i).filter p).map r) ws ∧ H0' D = none ∧ Gr H1 H01 H0' ∧ Rs K [] pl H1 H0' H' (wipe σ vs) ((wipeM S vs).map M.ro),
      ⟨xs.length, by simp, Nat.zero_le _, [], H01, upd_same, by rw [List.take_zero]; rfl, d0, Gr.refl _ _, Ri.fwd (Ex.refl _) (Ex.new hD) (Ri.e0.trans (Ex.new hD)) fun i m l h ho z k k2 => none_own i m l h ho z k k2⟩, ?_⟩
    rintro i m H' ⟨rfl, hi, ws, H0', hw, hr, hd0, g', R'⟩
    have src : Ex H1 H' := R'.eg
    by_cases hlt : i < xs.length
    · have hlt' : i < (xs.map f).length := by rw [List.length_map]; exact hlt
      have hda : (xs.map f)[i]? = some (f xs[i]) := by rw [List.getElem?_map, List.getElem?_eq_getElem hlt]; rfl
      have htk : xs.take (i + 1) = xs.take i ++ [xs[i]] := by rw [List.take_add_one, List.getElem?_eq_getElem hlt]; rfl
      refine .inr ⟨jk.go i H' src hlt', fun H2 => ∃ ws H0', H2 D = some (.lst ws) ∧ Rps K H0' (((xs.take (i + 1)).filter p).map r) ws ∧ H0' D = none ∧ Gr H1 H01 H0' ∧ Rs K [] pl H1 H0' H2 (wipe σ vs) ((wipeM S vs).map M.ro),
        fun H2 k => ⟨xs.length - (i + 1), by omega, rfl, hlt, k⟩, fun x H2 y => ?_⟩
      obtain ⟨S2, hg, htt, hte⟩ := ht xs[i] (List.getElem_mem hlt)
      have fin : ∀ (H02 H2 : Hp), Gr H1 H01 H02 → Gr H1 H0' H02 → H02 D = none → H2 D = some (.lst ws) → Rs K [] pl H1 H02 H2 (wipe σ vs) ((wipeM S vs).map M.ro) → Rp K H02 (f xs[i]) x → g x (wipe σ vs) H2 fun σ2 H2 => wipe σ2 vs = wipe σ vs ∧ tt σ2 H2 fun b H3 =>
          if b = true then te σ2 H3 fun y H4 => ∃ acc, H4 D = some (.lst acc) ∧ acc.length < sizeLine ∧ ∃ ws H0', upd H4 D (.lst (acc ++ [y])) D = some (.lst ws) ∧ Rps K H0' (((xs.take (i + 1)).filter p).map r) ws ∧ H0' D = none ∧ Gr H1 H01 H0' ∧ Rs K [] pl H1 H0' (upd H4 D (.lst (acc ++ [y]))) (wipe σ vs) ((wipeM S vs).map M.ro)
          else ∃ ws H0', H3 D = some (.lst ws) ∧ Rps K H0' (((xs.take (i + 1)).filter p).map r) ws ∧ H0' D = none ∧ Gr H1 H01 H0' ∧ Rs K [] pl H1 H0' H3 (wipe σ vs) ((wipeM S vs).map M.ro) := fun H02 H2 gA gB hd2 hw2 R2 px => by
        have R2G : Rs K [] pl (upd H1 D (.lst ws)) H02 H2 (wipe σ vs) ((wipeM S vs).map M.ro) := R2.addG hD hw2 fun j m' hj ho => by rw [ro_noown hj] at ho; cases ho
        refine hg.run [] pl _ H02 H2 (wipe σ vs) x (fun _ _ => by simp) R2G px _ fun σ2 R3 hσ => ?_
        have hw3 : wipe σ2 vs = wipe σ vs := by
          have e : wipe σ2 vs = wipe (wipe σ vs) vs := wipe_ext vs (by rw [R3.len, hg.len, List.length_map, wipeM_len, wipe_length, ← R1.len]) hσ
          rw [e]
          exact wipe_ext vs (wipe_length _ _) fun j hj => wipe_out hj
        refine ⟨hw3, htt [] pl _ H02 H2 σ2 R3 _ fun H03 H3 g3 e3 R4 => ?_⟩
        have hD3 : H3 D = some (.lst ws) := R4.eg D _ upd_same
        have hd3 : H03 D = none := g3.out (by rw [upd_same]; exact fun z => nomatch z) hd2
        have g3' : Gr H1 H02 H03 := g3.sub fun a k => by
          by_cases z : a = D
          · rw [z, upd_same]; exact fun z => nomatch z
          · rw [upd_ne z]; exact k
        cases hp : p xs[i] with
        | false =>
          rw [if_neg Bool.false_ne_true]
          refine ⟨ws, H03, hD3, ?_, hd3, gA.trans g3', R2.fwd g3.ex e3 R4.e0 fun j m' l h ho z k k2 => none_own j m' l h ho z k k2⟩
          rw [htk, List.filter_append, List.map_append]
          simp only [List.filter_cons, hp, List.filter_nil, List.map_nil, List.append_nil, Bool.false_eq_true, if_false]
          exact Rps.mono (gB.ex.trans g3.ex) _ _ hr
        | true =>
          rw [if_pos rfl]
          refine hte hp [] pl _ H03 H3 σ2 R4 _ fun y H04 H4 g4 e4 R5 py => ?_
          have hD4 : H4 D = some (.lst ws) := R5.eg D _ upd_same
          have hd4 : H04 D = none := g4.out (by rw [upd_same]; exact fun z => nomatch z) hd3
          have g4' : Gr H1 H03 H04 := g4.sub fun a k => by
            by_cases z : a = D
            · rw [z, upd_same]; exact fun z => nomatch z
            · rw [upd_ne z]; exact k
          have hrl := hr.length
          have hfl := List.length_filter_le p (xs.take i)
          rw [List.length_map] at hrl
          rw [List.length_take] at hfl
          refine ⟨ws, hD4, sz_lt (by omega), ws ++ [y], H04, upd_same, ?_, hd4, (gA.trans g3').trans g4', ?_⟩
          · rw [htk, List.filter_append, List.map_append]
            simp only [List.filter_cons, hp, List.filter_nil, List.map_nil, List.map_cons, if_true]
            exact (Rps.mono ((gB.ex.trans g3.ex).trans g4.ex) _ _ hr).append ⟨y, [], rfl, py, rfl⟩
          · have R6 : Rs K [] pl H1 H04 H4 (wipe σ vs) ((wipeM S vs).map M.ro) := R2.fwd (g3.ex.trans g4.ex) (e3.trans e4) R5.e0 fun j m' l h ho z k k2 => none_own j m' l h ho z k k2
            refine ⟨R6.len, fun a u ha => ?_, fun a u ha => ?_, fun j m' hj => ?_, R6.ap, R6.pin⟩
            · rw [upd_ne (ne_of_none ha hd4)]; exact R6.e0 a u ha
            · rw [upd_ne (ne_of_none ha hD)]; exact R6.eg a u ha
            · obtain ⟨ov, h1, h2⟩ := R6.sl j m' hj
              refine ⟨ov, h1, ?_⟩
              have no := ro_noown hj
              cases m' with
              | no => trivial
              | d x => exact h2
              | b x => exact h2
              | q ns => exact h2
              | o x => cases no
              | e φ => cases no
      rcases jk.yld i H' x H2 _ src hda y with ⟨e2, rp⟩ | ⟨T, es, us, hT, e2, e3, e4, rp⟩
      · subst e2
        exact fin H0' H2 g' (Gr.refl _ _) hd0 hw R' (Rp.mono g'.ex _ _ rp)
      · subst e2
        have nTD : D ≠ T := ne_of_none hw hT
        obtain ⟨gT, eT, RT⟩ := R'.lay (o := .tup us) hT
        refine fin _ _ (g'.trans gT) gT (by rw [upd_ne nTD]; exact hd0) (by rw [upd_ne nTD]; exact hw) RT ?_
        rw [e3, e4]
        exact ⟨T, us, rfl, upd_same, Rps.mono (g'.ex.trans gT.ex) _ _ rp⟩
    · have ei : i = xs.length := by omega
      subst ei
      rw [List.take_length] at hr
      refine .inl ⟨jk.stop _ H' src (by rw [List.length_map]; exact Nat.le_refl _), q D H0' H' (g1.trans (g'.sub fun a k => ?_)) (e1.trans src) (R1.fwd g'.ex src R'.e0 fun j m' l h ho z k k2 => ?_) hd0 dg dap ⟨ws, hw, hr⟩⟩
      · cases z : G a with
        | none => exact absurd z k
        | some o => rw [R1.eg a o z]; exact fun z => nomatch z
      · exact g'.out k2 k

/-- two states of one frame are joined: the own slots of the later one, the others of the first -/
theorem Rs.join {Pn4 : List Nat} {pl4 : Nat → V} {G4 H01 H04 H4 : Hp} {σ4 : L2.St} {S4 : List M} (R1 : Rs K Pn pl G H01 H1 σ S) (R4 : Rs K Pn4 pl4 G4 H04 H4 σ4 S4) (ex : Ex H01 H04) (eg : Ex G H4)
    (hσ : ∀ i, i ∉ vs → σ4[i]? = σ[i]?) (hS : ∀ i, i ∉ vs → S4[i]? = S[i]?) (hG : ∀ l, G4 l = none → G l = none) (hv : ∀ i ∈ vs, ∀ m, S[i]? = some m → m.own = false) : Rs K Pn pl G H04 H4 σ S where
  len := R1.len
  e0 := R4.e0
  eg := eg
  sl := fun i m h => by
    obtain ⟨ov, h1, h2⟩ := R1.sl i m h
    refine ⟨ov, h1, ?_⟩
    cases hm : m.own with
    | false =>
      cases m with
      | no => trivial
      | d x => obtain ⟨v, k1, k2⟩ := h2; exact ⟨v, k1, Rp.mono ex _ _ k2⟩
      | b x => obtain ⟨l, k1, k2⟩ := h2; exact ⟨l, k1, k2.mono0 ex⟩
      | q ns => exact h2
      | o x => cases hm
      | e φ => cases hm
    | true =>
      have hi : i ∉ vs := fun z => by rw [hv i z m h] at hm; cases hm
      obtain ⟨ov', h1', h2'⟩ := R4.sl i m (by rw [hS i hi]; exact h)
      rw [hσ i hi, h1] at h1'
      cases h1'
      cases m with
      | no => cases hm
      | d x => cases hm
      | b x => cases hm
      | q ns => cases hm
      | o x => obtain ⟨l, k1, k2, k3, k4⟩ := h2'; exact ⟨l, k1, k2, hG l k3, k4⟩
      | e φ => obtain ⟨l, x, kx, k1, k2, k3, k4⟩ := h2'; exact ⟨l, x, kx, k1, k2, hG l k3, k4⟩
  ap := R1.ap
  pin := R1.pin
theorem Rs.upd_free (R : Rs K Pn pl G H0 H σ S) {p : Addr} {o : HO} (h0 : H0 p = none) (hg : G p = none) (ap : Apart σ S p) : Rs K Pn pl G H0 (upd H p o) σ S where
  len := R.len
  e0 := fun a u ha => by rw [upd_ne (ne_of_none ha h0)]; exact R.e0 a u ha
  eg := fun a u ha => by rw [upd_ne (ne_of_none ha hg)]; exact R.eg a u ha
  sl := fun i m h => by
    obtain ⟨ov, h1, h2⟩ := R.sl i m h
    refine ⟨ov, h1, ?_⟩
    cases m with
    | no => trivial
    | d x => exact h2
    | b x => exact h2
    | q ns => exact h2
    | o x => obtain ⟨l, k1, k2, k3, k4⟩ := h2; exact ⟨l, k1, k2, k3, k4.at (upd_ne fun z => ap i _ h rfl (by rw [h1, k1, z]))⟩
    | e φ => obtain ⟨l, x, kx, k1, k2, k3, k4⟩ := h2; exact ⟨l, x, kx, k1, k2, k3, k4.at (upd_ne fun z => ap i _ h rfl (by rw [h1, k1, z]))⟩
  ap := R.ap
  pin := R.pin
/-- which items may come of which -/
inductive Sel {α : Type} (Rel : α → Option D → Prop) : List α → List D → Prop
  | nil : Sel Rel [] []
  | skip {xs : List α} {ds : List D} {a : α} : Sel Rel xs ds → Rel a none → Sel Rel (xs ++ [a]) ds
  | take {xs : List α} {ds : List D} {a : α} {d : D} : Sel Rel xs ds → Rel a (some d) → Sel Rel (xs ++ [a]) (ds ++ [d])
theorem Sel.len {α : Type} {Rel : α → Option D → Prop} {xs : List α} {ds : List D} (h : Sel Rel xs ds) : ds.length ≤ xs.length := by
  induction h with
  | nil => exact Nat.le_refl _
  | skip _ _ ih => rw [List.length_append]; omega
  | take _ _ ih => rw [List.length_append, List.length_append, List.length_singleton, List.length_singleton]; omega
/-- a comprehension whose parts may change own objects, of which as much is known behind as ahead: a new list -/
theorem evo_lc {α : Type} {f : α → D} {Rel : α → Option D → Prop} {φ : List α → Prop} {R : D → List M → Prop} {wi : TI} {g : TG} {tt : TT} {te : TE} (hv : ∀ i ∈ vs, ∀ m, S[i]? = some m → m.own = false)
    (wk : WkN K wi S fun ds S1 => S1 = S ∧ ∃ xs : List α, ds = xs.map f ∧ xs.length ≤ 50000 ∧ φ xs)
    (ht : ∀ xs, φ xs → ∀ a, a ∈ xs → ∃ S2, GtP K g vs (wipeM S vs) (f a) S2 ∧ TpN K tt S2 fun b S3 => S3 = S2 ∧ (b = false → Rel a none) ∧ (b = true → EvN K te S2 fun d S4 => S4 = S2 ∧ Rel a (some d)))
    (hd : ∀ xs ds, φ xs → Sel Rel xs ds → R (.lst ds) S) : EvO K (tLc wi g tt te vs) S R := fun Pn pl G H0 H σ Rr Q q =>
  wk Pn pl G H0 H σ Rr _ fun es S' J H01 H1 ⟨eS, xs, exs, hl, hφ⟩ g1 R1 jk D hD => by
    subst eS exs
    obtain ⟨d0, dg, dap⟩ := R1.own_new hD
    have Ri : Rs K [] pl G H01 H1 (wipe σ vs) (wipeM S' vs) := R1.nopin.wiped vs fun i _ => by simp
    have wap : ∀ (i : Nat) (m : M), (wipeM S' vs)[i]? = some m → m.own = true → (wipe σ vs)[i]? ≠ some (some (V.ref D)) := fun i m h ho z => by
      by_cases hi : i ∈ vs
      · rw [wipeM_in hi h] at ho; cases ho
      · rw [wipeM_out hi] at h
        rw [wipe_out hi] at z
        exact dap i m h ho z
    have wno : ∀ i ∈ vs, ∀ m, (wipeM S' vs)[i]? = some m → m.own = false := fun i hi m h => by rw [wipeM_in hi h]; rfl
    refine ⟨fun i m H' => m = xs.length - i ∧ i ≤ xs.length ∧ ∃ ws ds H0', H' D = some (.lst ws) ∧ Rps K H0' ds ws ∧ Sel Rel (xs.take i) ds ∧ H0' D = none ∧ Gr G H01 H0' ∧ Rs K [] pl G H0' H' (wipe σ vs) (wipeM S' vs),
      ⟨xs.length, by simp, Nat.zero_le _, [], [], H01, upd_same, rfl, by rw [List.take_zero]; exact .nil, d0, Gr.refl _ _, Ri.grow (Ex.new hD)⟩, ?_⟩
    rintro i m H' ⟨rfl, hi, ws, ds, H0', hw, hr, hsel, hd0, g', R'⟩
    have src : Ex H01 H' := g'.ex.trans R'.e0
    by_cases hlt : i < xs.length
    · have hlt' : i < (xs.map f).length := by rw [List.length_map]; exact hlt
      have hda : (xs.map f)[i]? = some (f xs[i]) := by rw [List.getElem?_map, List.getElem?_eq_getElem hlt]; rfl
      have htk : xs.take (i + 1) = xs.take i ++ [xs[i]] := by rw [List.take_add_one, List.getElem?_eq_getElem hlt]; rfl
      refine .inr ⟨jk.go i H' src hlt', fun H2 => ∃ ws ds H0', H2 D = some (.lst ws) ∧ Rps K H0' ds ws ∧ Sel Rel (xs.take (i + 1)) ds ∧ H0' D = none ∧ Gr G H01 H0' ∧ Rs K [] pl G H0' H2 (wipe σ vs) (wipeM S' vs),
        fun H2 k => ⟨xs.length - (i + 1), by omega, rfl, hlt, k⟩, fun x H2 y => ?_⟩
      obtain ⟨S2, hg, htt⟩ := ht xs hφ xs[i] (List.getElem_mem hlt)
      have fin : ∀ (H02 H2 : Hp), Gr G H0' H02 → H02 D = none → H2 D = some (.lst ws) → Rs K [] pl G H02 H2 (wipe σ vs) (wipeM S' vs) → Rp K H02 (f xs[i]) x → g x (wipe σ vs) H2 fun σ2 H2 => wipe σ2 vs = wipe σ vs ∧ tt σ2 H2 fun b H3 =>
          if b = true then te σ2 H3 fun y H4 => ∃ acc, H4 D = some (.lst acc) ∧ acc.length < sizeLine ∧ ∃ ws ds H0', upd H4 D (.lst (acc ++ [y])) D = some (.lst ws) ∧ Rps K H0' ds ws ∧ Sel Rel (xs.take (i + 1)) ds ∧ H0' D = none ∧ Gr G H01 H0' ∧ Rs K [] pl G H0' (upd H4 D (.lst (acc ++ [y]))) (wipe σ vs) (wipeM S' vs)
          else ∃ ws ds H0', H3 D = some (.lst ws) ∧ Rps K H0' ds ws ∧ Sel Rel (xs.take (i + 1)) ds ∧ H0' D = none ∧ Gr G H01 H0' ∧ Rs K [] pl G H0' H3 (wipe σ vs) (wipeM S' vs) := fun H02 H2 gB hd2 hw2 R2 px => by
        have R2G : Rs K [] pl (upd G D (.lst ws)) H02 H2 (wipe σ vs) (wipeM S' vs) := R2.addG dg hw2 wap
        have Gne : upd G D (HO.lst ws) D ≠ none := by rw [upd_same]; exact fun z => nomatch z
        have Gsub : ∀ a, G a ≠ none → upd G D (HO.lst ws) a ≠ none := fun a k => by
          by_cases z : a = D
          · rw [z]; exact Gne
          · rw [upd_ne z]; exact k
        have Gback : ∀ l, upd G D (HO.lst ws) l = none → G l = none := fun l k => by
          cases z : G l with
          | none => rfl
          | some o => exact absurd k (Gsub l (by rw [z]; exact fun z => nomatch z))
        refine hg.run [] pl _ H02 H2 (wipe σ vs) x (fun _ _ => by simp) R2G px _ fun σ2 R3 hσ => ?_
        have hw3 : wipe σ2 vs = wipe σ vs := by
          have e : wipe σ2 vs = wipe (wipe σ vs) vs := wipe_ext vs (by rw [R3.len, hg.len, wipeM_len, wipe_length, ← R1.len]) hσ
          rw [e]
          exact wipe_ext vs (wipe_length _ _) fun j hj => wipe_out hj
        refine ⟨hw3, htt [] pl _ H02 H2 σ2 R3 _ fun b S3 H03 H3 ⟨eS, kf, kt⟩ g3 R4 => ?_⟩
        subst eS
        have hD3 : H3 D = some (.lst ws) := R4.eg D _ upd_same
        have hd3 : H03 D = none := g3.out Gne hd2
        have g3' : Gr G H02 H03 := g3.sub Gsub
        cases b with
        | false =>
          rw [if_neg Bool.false_ne_true]
          refine ⟨ws, ds, H03, hD3, Rps.mono (gB.ex.trans g3.ex) _ _ hr, by rw [htk]; exact hsel.skip (kf rfl), hd3, (g'.trans gB).trans g3', ?_⟩
          exact R2.join R4 g3.ex (fun a u ha => R4.eg a u (by rw [upd_ne (ne_of_none ha dg)]; exact ha)) hσ hg.out Gback wno
        | true =>
          rw [if_pos rfl]
          refine kt rfl [] pl _ H03 H3 σ2 R4 _ fun d S4 y H04 H4 ⟨eS, hrel⟩ g4 R5 py => ?_
          subst eS
          have hD4 : H4 D = some (.lst ws) := R5.eg D _ upd_same
          have hd4 : H04 D = none := g4.out Gne hd3
          have g4' : Gr G H03 H04 := g4.sub Gsub
          have hrl := hr.length
          have hsl := hsel.len
          rw [List.length_take] at hsl
          refine ⟨ws, hD4, sz_lt (by omega), ws ++ [y], ds ++ [d], H04, upd_same, (Rps.mono ((gB.ex.trans g3.ex).trans g4.ex) _ _ hr).append ⟨y, [], rfl, py, rfl⟩, by rw [htk]; exact hsel.take hrel, hd4, ((g'.trans gB).trans g3').trans g4', ?_⟩
          have R6 : Rs K [] pl G H04 H4 (wipe σ vs) (wipeM S' vs) := R2.join R5 (g3.ex.trans g4.ex) (fun a u ha => R5.eg a u (by rw [upd_ne (ne_of_none ha dg)]; exact ha)) hσ hg.out Gback wno
          exact R6.upd_free hd4 dg wap
      rcases jk.yld i H' x H2 _ src hda y with ⟨e2, rp⟩ | ⟨T, es, us, hT, e2, e3, e4, rp⟩
      · subst e2
        exact fin H0' H2 (Gr.refl _ _) hd0 hw R' (Rp.mono g'.ex _ _ rp)
      · subst e2
        have nTD : D ≠ T := ne_of_none hw hT
        obtain ⟨gT, eT, RT⟩ := R'.lay (o := .tup us) hT
        refine fin _ _ gT (by rw [upd_ne nTD]; exact hd0) (by rw [upd_ne nTD]; exact hw) RT ?_
        rw [e3, e4]
        exact ⟨T, us, rfl, upd_same, Rps.mono (g'.ex.trans gT.ex) _ _ rp⟩
    · have ei : i = xs.length := by omega
      subst ei
      rw [List.take_length] at hsel
      refine .inl ⟨jk.stop _ H' src (by rw [List.length_map]; exact Nat.le_refl _), q _ S' D H0' H' (hd xs ds hφ hsel) (g1.trans g') ?_ hd0 dg dap ⟨ws, hw, hr⟩⟩
      exact R1.join R' g'.ex R'.eg (fun j hj => wipe_out hj) (fun j hj => wipeM_out hj) (fun l k => k) hv

theorem Rs.fwdN (R : Rs K Pn pl G H0 H σ S) (ex : Ex H0 H1) (eg : Ex G H2) (e0 : Ex H1 H2) (hno : ∀ (i : Nat) (m : M), S[i]? = some m → m.own = false) : Rs K Pn pl G H1 H2 σ S where
  len := R.len
  e0 := e0
  eg := eg
  sl := fun i m h => by
    obtain ⟨ov, h1, h2⟩ := R.sl i m h
    have no := hno i m h
    refine ⟨ov, h1, ?_⟩
    cases m with
    | no => trivial
    | d x => obtain ⟨v, k1, k2⟩ := h2; exact ⟨v, k1, Rp.mono ex _ _ k2⟩
    | b x => obtain ⟨l, k1, k2⟩ := h2; exact ⟨l, k1, k2.mono0 ex⟩
    | q ns => exact h2
    | o x => cases no
    | e φ => cases no
  ap := R.ap
  pin := R.pin
theorem wipeM_noown (h : ∀ (i : Nat) (m : M), S[i]? = some m → m.own = false) (us : List Nat) : ∀ (i : Nat) (m : M), (wipeM S us)[i]? = some m → m.own = false := fun i m e => by
  by_cases q : i ∈ us
  · rw [wipeM_in q e]; rfl
  · rw [wipeM_out q] at e; exact h i m e
/-- a comprehension of two clauses that changes nothing: a new list -/
theorem evf_lc2 {α β : Type} {xs : List α} {f : α → D} {p : α → Bool} {ys : α → List β} {f1 : β → D} {p1 : α → β → Bool} {r : α → β → D} {us : List Nat} {wi wi1 : TI} {g g1 : TG} {tt tt1 : TT} {te : TE} (wk : WkB K wi S (xs.map f))
    (hl : ((xs.filter p).flatMap fun a => ((ys a).filter (p1 a)).map (r a)).length ≤ 50000)
    (ht : ∀ a, a ∈ xs → ∃ S2, GtP K g vs ((wipeM S vs).map M.ro) (f a) S2 ∧ (∀ (i : Nat) (m : M), S2[i]? = some m → m.own = false) ∧ TpP K tt S2 (p a) ∧ (p a = true → WkP K wi1 S2 ((ys a).map f1) ∧
      ∀ b, b ∈ ys a → ∃ S3, GtP K g1 us (wipeM S2 us) (f1 b) S3 ∧ TpP K tt1 S3 (p1 a b) ∧ (p1 a b = true → EvP K te S3 (r a b)))) :
    EvF K (tLc2 wi g tt wi1 g1 tt1 te vs us) S (.lst ((xs.filter p).flatMap fun a => ((ys a).filter (p1 a)).map (r a))) := fun Pn pl G H0 H σ Rr Q q =>
  wk Pn pl G H0 H σ Rr _ fun J H01 H1 g1' e1 R1 jk D hD => by
    obtain ⟨d0, dg, dap⟩ := R1.own_new hD
    have Ri : Rs K [] pl H1 H01 H1 (wipe σ vs) ((wipeM S vs).map M.ro) := (R1.nopin.wiped vs fun i _ => by simp).ro
    have Sno : ∀ (i : Nat) (m : M), ((wipeM S vs).map M.ro)[i]? = some m → m.own = false := fun i m h => ro_noown h
    have Gne : ∀ ws : List V, upd H1 D (HO.lst ws) D ≠ none := fun ws => by rw [upd_same]; exact fun z => nomatch z
    have Gsub : ∀ (ws : List V) (a : Addr), H1 a ≠ none → upd H1 D (HO.lst ws) a ≠ none := fun ws a k => by
      by_cases z : a = D
      · rw [z]; exact Gne ws
      · rw [upd_ne z]; exact k
    refine ⟨fun i m H' => m = xs.length - i ∧ i ≤ xs.length ∧ ∃ ws H0', H' D = some (.lst ws) ∧ Rps K H0' (((xs.take i).filter p).flatMap fun a => ((ys a).filter (p1 a)).map (r a)) ws ∧ H0' D = none ∧ Gr H1 H01 H0' ∧ Rs K [] pl H1 H0' H' (wipe σ vs) ((wipeM S vs).map M.ro),
      ⟨xs.length, by simp, Nat.zero_le _, [], H01, upd_same, by rw [List.take_zero]; rfl, d0, Gr.refl _ _, Ri.fwdN (Ex.refl _) (Ri.eg.trans (Ex.new hD)) (Ri.e0.trans (Ex.new hD)) Sno⟩, ?_⟩
    rintro i m H' ⟨rfl, hi, ws, H0', hw, hr, hd0, g', R'⟩
    have src : Ex H1 H' := R'.eg
    by_cases hlt : i < xs.length
    · have hlt' : i < (xs.map f).length := by rw [List.length_map]; exact hlt
      have hda : (xs.map f)[i]? = some (f xs[i]) := by rw [List.getElem?_map, List.getElem?_eq_getElem hlt]; rfl
      have htk : xs.take (i + 1) = xs.take i ++ [xs[i]] := by rw [List.take_add_one, List.getElem?_eq_getElem hlt]; rfl
      have hdr : xs = xs.take i ++ xs[i] :: xs.drop (i + 1) := by
        have e := (List.take_append_drop i xs).symm
        rw [List.drop_eq_getElem_cons hlt] at e
        exact e
      refine .inr ⟨jk.go i H' src hlt', fun H2 => ∃ ws H0', H2 D = some (.lst ws) ∧ Rps K H0' (((xs.take (i + 1)).filter p).flatMap fun a => ((ys a).filter (p1 a)).map (r a)) ws ∧ H0' D = none ∧ Gr H1 H01 H0' ∧ Rs K [] pl H1 H0' H2 (wipe σ vs) ((wipeM S vs).map M.ro),
        fun H2 k => ⟨xs.length - (i + 1), by omega, rfl, hlt, k⟩, fun x H2 y => ?_⟩
      obtain ⟨S2, hg, no2, htt, hte⟩ := ht xs[i] (List.getElem_mem hlt)
      have fin : ∀ (H02 H2 : Hp), Gr H1 H01 H02 → Gr H1 H0' H02 → H02 D = none → H2 D = some (.lst ws) → Rs K [] pl H1 H02 H2 (wipe σ vs) ((wipeM S vs).map M.ro) → Rp K H02 (f xs[i]) x → g x (wipe σ vs) H2 fun σ2 H2 => wipe σ2 vs = wipe σ vs ∧ tt σ2 H2 fun b H3 =>
          if b = true then wi1 σ2 H3 fun J1 H4 => ∃ W1 : Nat → Nat → Hp → Prop, (∃ m, W1 0 m H4) ∧ ∀ j k H, W1 j k H →
            (J1.stop j H ∧ ∃ ws H0', H D = some (.lst ws) ∧ Rps K H0' (((xs.take (i + 1)).filter p).flatMap fun a => ((ys a).filter (p1 a)).map (r a)) ws ∧ H0' D = none ∧ Gr H1 H01 H0' ∧ Rs K [] pl H1 H0' H (wipe σ vs) ((wipeM S vs).map M.ro)) ∨
            (J1.go j H ∧ ∃ Nx1 : Hp → Prop, (∀ H', Nx1 H' → ∃ k', k' < k ∧ W1 (j + 1) k' H') ∧ ∀ x H', J1.yld j H x H' → g1 x (wipe σ2 us) H' fun σ3 H5 => wipe σ3 us = wipe σ2 us ∧ tt1 σ3 H5 fun b H6 =>
              if b = true then te σ3 H6 fun y H7 => ∃ acc, H7 D = some (.lst acc) ∧ acc.length < sizeLine ∧ Nx1 (upd H7 D (.lst (acc ++ [y]))) else Nx1 H6)
          else ∃ ws H0', H3 D = some (.lst ws) ∧ Rps K H0' (((xs.take (i + 1)).filter p).flatMap fun a => ((ys a).filter (p1 a)).map (r a)) ws ∧ H0' D = none ∧ Gr H1 H01 H0' ∧ Rs K [] pl H1 H0' H3 (wipe σ vs) ((wipeM S vs).map M.ro) := fun H02 H2 gA gB hd2 hw2 R2 px => by
        refine hg.run [] pl _ H02 H2 (wipe σ vs) x (fun _ _ => by simp) R2 px _ fun σ2 R3 hσ => ?_
        have hw3 : wipe σ2 vs = wipe σ vs := by
          have e : wipe σ2 vs = wipe (wipe σ vs) vs := wipe_ext vs (by rw [R3.len, hg.len, List.length_map, wipeM_len, wipe_length, ← R1.len]) hσ
          rw [e]
          exact wipe_ext vs (wipe_length _ _) fun j hj => wipe_out hj
        have ap2 : ∀ (i : Nat) (m : M), S2[i]? = some m → m.own = true → σ2[i]? ≠ some (some (V.ref D)) := fun j m' hj ho => by rw [no2 j m' hj] at ho; cases ho
        refine ⟨hw3, htt [] pl _ H02 H2 σ2 (R3.addG hD hw2 ap2) _ fun H03 H3 g3 e3 R4 => ?_⟩
        have hD3 : H3 D = some (.lst ws) := R4.eg D _ upd_same
        have hd3 : H03 D = none := g3.out (Gne ws) hd2
        have g3' : Gr H1 H02 H03 := g3.sub (Gsub ws)
        have eg3 : Ex H1 H3 := R2.eg.trans e3
        cases hp : p xs[i] with
        | false =>
          rw [if_neg Bool.false_ne_true]
          refine ⟨ws, H03, hD3, ?_, hd3, gA.trans g3', R2.fwdN g3.ex eg3 R4.e0 Sno⟩
          rw [htk, List.filter_append]
          simp only [List.filter_cons, hp, List.filter_nil, List.append_nil, Bool.false_eq_true, if_false]
          exact Rps.mono (gB.ex.trans g3.ex) _ _ hr
        | true =>
          rw [if_pos rfl]
          obtain ⟨wk1, hin⟩ := hte hp
          have R3' : Rs K [] pl H1 H03 H3 σ2 S2 := R3.fwdN g3.ex eg3 R4.e0 no2
          refine wk1 [] pl _ H03 H3 σ2 (R3'.addG hD hD3 ap2) _ fun J1 H04 H4 g4 e4 R5 jk1 => ?_
          have hD4 : H4 D = some (.lst ws) := R5.eg D _ upd_same
          have hd4 : H04 D = none := g4.out (Gne ws) hd3
          have g4' : Gr H1 H03 H04 := g4.sub (Gsub ws)
          have hpre : ((xs.take (i + 1)).filter p).flatMap (fun a => ((ys a).filter (p1 a)).map (r a)) = (((xs.take i).filter p).flatMap fun a => ((ys a).filter (p1 a)).map (r a)) ++ ((ys xs[i]).filter (p1 xs[i])).map (r xs[i]) := by
            rw [htk, List.filter_append, List.flatMap_append]
            simp only [List.filter_cons, hp, List.filter_nil, if_true, List.flatMap_cons, List.flatMap_nil, List.append_nil]
          have hall : (((xs.take i).filter p).flatMap fun a => ((ys a).filter (p1 a)).map (r a)).length + (((ys xs[i]).filter (p1 xs[i])).map (r xs[i])).length ≤ 50000 := by
            have e : ((xs.filter p).flatMap fun a => ((ys a).filter (p1 a)).map (r a)) = (((xs.take (i + 1)).filter p).flatMap fun a => ((ys a).filter (p1 a)).map (r a)) ++ (((xs.drop (i + 1)).filter p).flatMap fun a => ((ys a).filter (p1 a)).map (r a)) := by
              rw [← List.flatMap_append, ← List.filter_append, List.take_append_drop]
            rw [e, hpre, List.length_append, List.length_append] at hl
            omega
          refine ⟨fun j k H => k = (ys xs[i]).length - j ∧ j ≤ (ys xs[i]).length ∧ ∃ ws H0', H D = some (.lst ws) ∧ Rps K H0' ((((xs.take i).filter p).flatMap fun a => ((ys a).filter (p1 a)).map (r a)) ++ (((ys xs[i]).take j).filter (p1 xs[i])).map (r xs[i])) ws ∧ H0' D = none ∧ Gr H1 H04 H0' ∧ Rs K [] pl H1 H0' H σ2 S2,
            ⟨(ys xs[i]).length, by simp, Nat.zero_le _, ws, H04, hD4, ?_, hd4, Gr.refl _ _, R3'.fwdN g4.ex (eg3.trans e4) R5.e0 no2⟩, ?_⟩
          · rw [List.take_zero]
            simp only [List.filter_nil, List.map_nil, List.append_nil]
            exact Rps.mono ((gB.ex.trans g3.ex).trans g4.ex) _ _ hr
          · rintro j k H5 ⟨rfl, hj, ws5, H05, hD5, hr5, hd5, g5, R6⟩
            have src1 : Ex H04 H5 := g5.ex.trans R6.e0
            by_cases hjl : j < (ys xs[i]).length
            · have hdb : ((ys xs[i]).map f1)[j]? = some (f1 (ys xs[i])[j]) := by rw [List.getElem?_map, List.getElem?_eq_getElem hjl]; rfl
              have htk1 : (ys xs[i]).take (j + 1) = (ys xs[i]).take j ++ [(ys xs[i])[j]] := by rw [List.take_add_one, List.getElem?_eq_getElem hjl]; rfl
              refine .inr ⟨jk1.go j H5 src1 (by rw [List.length_map]; exact hjl), fun H => ∃ ws H0', H D = some (.lst ws) ∧ Rps K H0' ((((xs.take i).filter p).flatMap fun a => ((ys a).filter (p1 a)).map (r a)) ++ (((ys xs[i]).take (j + 1)).filter (p1 xs[i])).map (r xs[i])) ws ∧ H0' D = none ∧ Gr H1 H04 H0' ∧ Rs K [] pl H1 H0' H σ2 S2,
                fun H kk => ⟨(ys xs[i]).length - (j + 1), by omega, rfl, hjl, kk⟩, fun x1 H6 y1 => ?_⟩
              obtain ⟨S3, hg1, htt1, hte1⟩ := hin (ys xs[i])[j] (List.getElem_mem hjl)
              have Sno1 := wipeM_noown no2 us
              have fin1 : ∀ (H06 H6 : Hp), Gr H1 H05 H06 → H06 D = none → H6 D = some (.lst ws5) → Rs K [] pl H1 H06 H6 σ2 S2 → Rp K H06 (f1 (ys xs[i])[j]) x1 → g1 x1 (wipe σ2 us) H6 fun σ3 H5 => wipe σ3 us = wipe σ2 us ∧ tt1 σ3 H5 fun b H6 =>
                  if b = true then te σ3 H6 fun y H7 => ∃ acc, H7 D = some (.lst acc) ∧ acc.length < sizeLine ∧ ∃ ws H0', upd H7 D (.lst (acc ++ [y])) D = some (.lst ws) ∧ Rps K H0' ((((xs.take i).filter p).flatMap fun a => ((ys a).filter (p1 a)).map (r a)) ++ (((ys xs[i]).take (j + 1)).filter (p1 xs[i])).map (r xs[i])) ws ∧ H0' D = none ∧ Gr H1 H04 H0' ∧ Rs K [] pl H1 H0' (upd H7 D (.lst (acc ++ [y]))) σ2 S2
                  else ∃ ws H0', H6 D = some (.lst ws) ∧ Rps K H0' ((((xs.take i).filter p).flatMap fun a => ((ys a).filter (p1 a)).map (r a)) ++ (((ys xs[i]).take (j + 1)).filter (p1 xs[i])).map (r xs[i])) ws ∧ H0' D = none ∧ Gr H1 H04 H0' ∧ Rs K [] pl H1 H0' H6 σ2 S2 := fun H06 H6 gC hd6 hD6 R7 px1 => by
                have Rw : Rs K [] pl H1 H06 H6 (wipe σ2 us) (wipeM S2 us) := R7.wiped us fun i _ => by simp
                refine hg1.run [] pl _ H06 H6 (wipe σ2 us) x1 (fun _ _ => by simp) (Rw.addG hD hD6 fun a m' ha ho => by rw [Sno1 a m' ha] at ho; cases ho) px1 _ fun σ3 R8 hσ1 => ?_
                have hw4 : wipe σ3 us = wipe σ2 us := by
                  have e : wipe σ3 us = wipe (wipe σ2 us) us := wipe_ext us (by rw [R8.len, hg1.len, wipeM_len, wipe_length, R3.len]) hσ1
                  rw [e]
                  exact wipe_ext us (wipe_length _ _) fun a ha => wipe_out ha
                refine ⟨hw4, htt1 [] pl _ H06 H6 σ3 R8 _ fun H07 H7 g7 e7 R9 => ?_⟩
                have hD7 : H7 D = some (.lst ws5) := R9.eg D _ upd_same
                have hd7 : H07 D = none := g7.out (Gne ws5) hd6
                have g7' : Gr H1 H06 H07 := g7.sub (Gsub ws5)
                cases hp1 : p1 xs[i] (ys xs[i])[j] with
                | false =>
                  rw [if_neg Bool.false_ne_true]
                  refine ⟨ws5, H07, hD7, ?_, hd7, (g5.trans gC).trans g7', R7.fwdN g7.ex (R7.eg.trans e7) R9.e0 no2⟩
                  rw [htk1, List.filter_append]
                  simp only [List.filter_cons, hp1, List.filter_nil, List.append_nil, Bool.false_eq_true, if_false]
                  exact Rps.mono (gC.ex.trans g7.ex) _ _ hr5
                | true =>
                  rw [if_pos rfl]
                  refine hte1 hp1 [] pl _ H07 H7 σ3 R9 _ fun y H08 H8 g8 e8 R10 py => ?_
                  have hD8 : H8 D = some (.lst ws5) := R10.eg D _ upd_same
                  have hd8 : H08 D = none := g8.out (Gne ws5) hd7
                  have g8' : Gr H1 H07 H08 := g8.sub (Gsub ws5)
                  have hl5 := hr5.length
                  simp only [List.length_append, List.length_map] at hl5 hall
                  have hf1 : (((ys xs[i]).take (j + 1)).filter (p1 xs[i])).length ≤ ((ys xs[i]).filter (p1 xs[i])).length := ((List.take_sublist _ _).filter _).length_le
                  rw [htk1, List.filter_append, List.length_append] at hf1
                  simp only [List.filter_cons, hp1, List.filter_nil, if_true, List.length_singleton] at hf1
                  refine ⟨ws5, hD8, sz_lt (by omega), ws5 ++ [y], H08, upd_same, ?_, hd8, ((g5.trans gC).trans g7').trans g8', ?_⟩
                  · rw [htk1, List.filter_append, List.map_append, ← List.append_assoc]
                    simp only [List.filter_cons, hp1, List.filter_nil, List.map_nil, List.map_cons, if_true]
                    exact (Rps.mono ((gC.ex.trans g7.ex).trans g8.ex) _ _ hr5).append ⟨y, [], rfl, py, rfl⟩
                  · exact (R7.fwdN (g7.ex.trans g8.ex) (R7.eg.trans (e7.trans e8)) R10.e0 no2).upd_free hd8 hD ap2
              rcases jk1.yld j H5 x1 H6 _ src1 hdb y1 with ⟨e6, rp⟩ | ⟨T, es, ws', hT, e6, e7, e8, rp⟩
              · subst e6
                exact fin1 H05 H6 (Gr.refl _ _) hd5 hD5 R6 (Rp.mono g5.ex _ _ rp)
              · subst e6
                have nTD : D ≠ T := ne_of_none hD5 hT
                obtain ⟨gT, eT, RT⟩ := R6.lay (o := .tup ws') hT
                refine fin1 _ _ gT (by rw [upd_ne nTD]; exact hd5) (by rw [upd_ne nTD]; exact hD5) RT ?_
                rw [e7, e8]
                exact ⟨T, ws', rfl, upd_same, Rps.mono (g5.ex.trans gT.ex) _ _ rp⟩
            · have ej : j = (ys xs[i]).length := by omega
              subst ej
              rw [List.take_length] at hr5
              refine .inl ⟨jk1.stop _ H5 src1 (by rw [List.length_map]; exact Nat.le_refl _), ws5, H05, hD5, ?_, hd5, ((gA.trans g3').trans g4').trans g5, R2.fwdN ((g3.ex.trans g4.ex).trans g5.ex) R6.eg R6.e0 Sno⟩
              rw [hpre]; exact hr5
      rcases jk.yld i H' x H2 _ src hda y with ⟨e2, rp⟩ | ⟨T, es, ws', hT, e2, e3, e4, rp⟩
      · subst e2
        exact fin H0' H2 g' (Gr.refl _ _) hd0 hw R' (Rp.mono g'.ex _ _ rp)
      · subst e2
        have nTD : D ≠ T := ne_of_none hw hT
        obtain ⟨gT, eT, RT⟩ := R'.lay (o := .tup ws') hT
        refine fin _ _ (g'.trans gT) gT (by rw [upd_ne nTD]; exact hd0) (by rw [upd_ne nTD]; exact hw) RT ?_
        rw [e3, e4]
        exact ⟨T, ws', rfl, upd_same, Rps.mono (g'.ex.trans gT.ex) _ _ rp⟩
    · have ei : i = xs.length := by omega
      subst ei
      rw [List.take_length] at hr
      refine .inl ⟨jk.stop _ H' src (by rw [List.length_map]; exact Nat.le_refl _), q D H0' H' (g1'.trans (g'.sub fun a k => ?_)) (e1.trans src) (R1.fwd g'.ex src R'.e0 fun j m' l h ho z k k2 => ?_) hd0 dg dap ⟨ws, hw, hr⟩⟩
      · cases z : G a with
        | none => exact absurd z k
        | some o => rw [R1.eg a o z]; exact fun z => nomatch z
      · exact g'.out k2 k
end
end Dl
/-! Calls of defs, methods, classes: promises over slots. -/
namespace Dl
open PySem L2 Evl

/-- a promise: the arguments, what is wished of the answer and of the arguments behind (those that are no own objects are .no then) -/
abbrev Ct := List M → (D → List M → Prop) → Prop
def noV : Nat → V := fun _ => .non
def spD (K : PySem.W.Frag) (C : Ct) : Sp := fun vs H Q _ => ∃ S R G H0, C S R ∧ Rs K [] noV G H0 H (vs.map some) S ∧
  ∀ d S' v H0' H', R d S' → Gr G H0 H0' → Rs K [] noV G H0' H' (vs.map some) S' → Rp K H0' d v → Q v H'
/-- an argument: data, a slot that is read, an own object of a slot -/
inductive Ar where
  | d (x : D) | b (i : Nat) | s (i : Nat)
def Ar.slot? : Ar → Option Nat
  | .s i => some i
  | _ => none
def slots (as : List Ar) : List Nat := as.filterMap Ar.slot?
/-- a slot that is handed over to be read -/
def M.toB : M → M
  | .o x => .b x
  | .b x => .b x
  | .d x => .d x
  | .q ns => .q ns
  | _ => .no
def M.rdB : M → Bool
  | .o _ => true
  | .b _ => true
  | .d _ => true
  | .q _ => true
  | _ => false
theorem rd_toB {m : M} {x : D} (h : m.rd x) : m.toB.rd x := by cases m <;> first | exact h | exact h.elim
theorem rdB_of {m : M} {x : D} (h : m.rd x) : m.rdB = true := by cases m <;> first | rfl | exact h.elim
def arM (S : List M) : Ar → M
  | .d x => .d x
  | .b i => match S[i]? with
    | some m => m.toB
    | none => .no
  | .s i => match S[i]? with
    | some m => m
    | none => .no
def arOne (S : List M) (us : List Nat) : Ar → Bool
  | .d _ => true
  | .b i => (!us.contains i) && match S[i]? with
    | some m => m.rdB
    | none => false
  | .s i => match S[i]? with
    | some m => m.own
    | none => false
def ndB : List Nat → Bool
  | [] => true
  | x :: xs => (!xs.contains x) && ndB xs
def arChk (S : List M) (as : List Ar) : Bool := as.all (arOne S (slots as)) && ndB (slots as)
/-- a slot of the callee's, back in the caller's -/
def M.nb : M → M
  | .b _ => .no
  | .q _ => .no
  | m => m
def putBack : List Ar → List M → List M → List M
  | .s i :: as, m :: So, S => putBack as So (S.set i m.nb)
  | _ :: as, _ :: So, S => putBack as So S
  | _, _, S => S
def Arel (K : PySem.W.Frag) (H0 : Hp) (σ : L2.St) : Ar → V → Prop
  | .d x, v => Rp K H0 x v
  | .b i, v => σ[i]? = some (some v)
  | .s i, v => σ[i]? = some (some v)
abbrev Arels (K : PySem.W.Frag) (H0 : Hp) (σ : L2.St) : List Ar → List V → Prop := Paired (Arel K H0 σ)
def ArN (K : PySem.W.Frag) (ta : TA) (S : List M) (R : List Ar → List M → Prop) : Prop := ∀ Pn pl G H0 H σ, Rs K Pn pl G H0 H σ S → ∀ Q : List V → Hp → Prop,
  (∀ as S' vs H0' H', R as S' → Gr G H0 H0' → Rs K Pn pl G H0' H' σ S' → Arels K H0' σ as vs → Q vs H') → ta σ H Q
section
variable {K : PySem.W.Frag} {Pn : List Nat} {pl : Nat → V} {G H0 H H1 H2 : Hp} {σ : L2.St} {S : List M} {C : Ct} {R : D → List M → Prop}
theorem Arel.mono (e : Ex H0 H1) {a : Ar} {v : V} (h : Arel K H0 σ a v) : Arel K H1 σ a v := by
  cases a with
  | d x => exact Rp.mono e _ _ h
  | b i => exact h
  | s i => exact h
theorem arn_nil {R : List Ar → List M → Prop} (r : R [] S) : ArN K tNil S R := fun Pn pl G H0 H σ Rr Q q => q [] S [] H0 H r (Gr.refl _ _) Rr .nil
theorem arn_d {te : TE} {tr : TA} {R : List Ar → List M → Prop} (h : EvN K te S fun d S1 => ArN K tr S1 fun as S2 => R (.d d :: as) S2) : ArN K (tCons te tr) S R := fun Pn pl G H0 H σ Rr Q q =>
  h Pn pl G H0 H σ Rr _ fun d S1 v H01 H1 hr g1 R1 p1 => hr Pn pl G H01 H1 σ R1 _ fun as S2 vs H02 H2 r g2 R2 p2 => q (.d d :: as) S2 (v :: vs) H02 H2 r (g1.trans g2) R2 (.cons (Rp.mono g2.ex _ _ p1) p2)
theorem arn_p {te : TE} {tr : TA} {d : D} {R : List Ar → List M → Prop} (h : EvP K te S d) (k : ArN K tr S fun as S2 => R (.d d :: as) S2) : ArN K (tCons te tr) S R := arn_d (h.n k)
theorem M.val {m : M} {ov : Option V} (h : Rm K G H0 H m ov) (hm : m.own = true ∨ ∃ x, m.rd x) : ∃ v, ov = some v := by
  cases m with
  | no => exact hm.elim (fun z => by cases z) fun ⟨x, z⟩ => z.elim
  | d x => obtain ⟨v, e, _⟩ := h; exact ⟨v, e⟩
  | b x => obtain ⟨v, e, _⟩ := h; exact ⟨_, e⟩
  | q ns => obtain ⟨v, e, _⟩ := h; exact ⟨_, e⟩
  | o x => obtain ⟨v, e, _⟩ := h; exact ⟨_, e⟩
  | e φ => obtain ⟨l, x, _, e, _⟩ := h; exact ⟨_, e⟩
theorem arn_s {i : Nat} {m : M} {tr : TA} {R : List Ar → List M → Prop} (h0 : S[i]? = some m) (hm : m.own = true) (k : ArN K tr S fun as S2 => R (.s i :: as) S2) : ArN K (tCons (tVar i) tr) S R := fun Pn pl G H0 H σ Rr Q q => by
  obtain ⟨ov, h1, h2⟩ := Rr.sl i m h0
  obtain ⟨v, rfl⟩ := M.val h2 (.inl hm)
  exact ⟨v, h1, k Pn pl G H0 H σ Rr _ fun as S2 vs H02 H2 r g2 R2 p2 => q (.s i :: as) S2 (v :: vs) H02 H2 r g2 R2 (.cons h1 p2)⟩
theorem arn_b {i : Nat} {m : M} {x : D} {tr : TA} {R : List Ar → List M → Prop} (h0 : S[i]? = some m) (hm : m.rd x) (k : ArN K tr S fun as S2 => R (.b i :: as) S2) : ArN K (tCons (tVar i) tr) S R := fun Pn pl G H0 H σ Rr Q q => by
  obtain ⟨ov, h1, h2⟩ := Rr.sl i m h0
  obtain ⟨v, rfl⟩ := M.val h2 (.inr ⟨x, hm⟩)
  exact ⟨v, h1, k Pn pl G H0 H σ Rr _ fun as S2 vs H02 H2 r g2 R2 p2 => q (.b i :: as) S2 (v :: vs) H02 H2 r g2 R2 (.cons h1 p2)⟩
theorem arn_q {i : Nat} {ns : List Int} {tr : TA} {R : List Ar → List M → Prop} (h0 : S[i]? = some (.q ns)) (k : ArN K tr S fun as S2 => R (.b i :: as) S2) : ArN K (tCons (tVar i) tr) S R := fun Pn pl G H0 H σ Rr Q q => by
  obtain ⟨ov, h1, v, rfl, h2⟩ := Rr.sl i _ h0
  exact ⟨_, h1, k Pn pl G H0 H σ Rr _ fun as S2 vs H02 H2 r g2 R2 p2 => q (.b i :: as) S2 (_ :: vs) H02 H2 r g2 R2 (.cons h1 p2)⟩
theorem mem_slots {as : List Ar} {i : Nat} : i ∈ slots as ↔ Ar.s i ∈ as := by
  unfold slots
  rw [List.mem_filterMap]
  constructor
  · rintro ⟨a, h, e⟩
    cases a with
    | s j => cases e; exact h
    | d x => cases e
    | b j => cases e
  · exact fun h => ⟨_, h, rfl⟩
/-- the addresses handed over -/
def Psd (σ : L2.St) (as : List Ar) (a : Addr) : Prop := ∃ i, Ar.s i ∈ as ∧ σ[i]? = some (some (V.ref a))
open Classical in
noncomputable def Gc (σ : L2.St) (as : List Ar) (H : Hp) : Hp := fun a => if Psd σ as a then none else H a
theorem Gc_no {as : List Ar} {a : Addr} (h : Psd σ as a) : Gc σ as H a = none := by unfold Gc; rw [if_pos h]
theorem Gc_at {as : List Ar} {a : Addr} (h : ¬ Psd σ as a) : Gc σ as H a = H a := by unfold Gc; rw [if_neg h]
theorem Gc_ex {as : List Ar} : Ex (Gc σ as H) H := fun a o e => by
  by_cases h : Psd σ as a
  · rw [Gc_no h] at e; cases e
  · rw [Gc_at h] at e; exact e
theorem Paired.get {α β : Type} {F : α → β → Prop} : ∀ {as : List α} {bs : List β} {i : Nat} {a : α}, Paired F as bs → as[i]? = some a → ∃ b, bs[i]? = some b ∧ F a b
  | _, _, _, _, .nil, e => by cases e
  | _, _, 0, _, .cons r t, e => by cases e; exact ⟨_, rfl, r⟩
  | _, _, i + 1, _, .cons r t, e => Paired.get (i := i) t e
theorem Paired.len {α β : Type} {F : α → β → Prop} : ∀ {as : List α} {bs : List β}, Paired F as bs → as.length = bs.length
  | _, _, .nil => rfl
  | _, _, .cons r t => by rw [List.length_cons, List.length_cons, Paired.len t]
theorem nd_uniq : ∀ {as : List Ar} {i j k : Nat}, ndB (slots as) = true → as[i]? = some (.s k) → as[j]? = some (.s k) → i = j
  | [], i, _, _, _, e, _ => by cases e
  | a :: as, i, j, k, h, ei, ej => by
    have tail : ndB (slots as) = true := by
      cases a <;> simp only [slots, List.filterMap_cons, Ar.slot?] at h <;> first
        | exact h
        | (simp only [ndB, Bool.and_eq_true] at h; exact h.2)
    have no : ∀ n : Nat, a = Ar.s k → as[n]? = some (Ar.s k) → False := fun n ea en => by
      subst ea
      simp only [slots, List.filterMap_cons, Ar.slot?, ndB, Bool.and_eq_true, Bool.not_eq_true'] at h
      have : k ∈ slots as := mem_slots.mpr (List.mem_of_getElem? en)
      have h1 := h.1
      rw [List.contains_eq_mem] at h1
      exact absurd this (of_decide_eq_false h1)
    cases i with
    | zero =>
      cases j with
      | zero => rfl
      | succ j => exact (no j (Option.some.inj ei) ej).elim
    | succ i =>
      cases j with
      | zero => exact (no i (Option.some.inj ej) ei).elim
      | succ j => rw [nd_uniq (as := as) tail ei ej]
theorem putBack_len : ∀ (as : List Ar) (So S : List M), (putBack as So S).length = S.length
  | [], So, S => by cases So <;> rfl
  | a :: as, [], S => by cases a <;> rfl
  | .s i :: as, m :: So, S => by unfold putBack; rw [putBack_len as So, List.length_set]
  | .d x :: as, m :: So, S => by unfold putBack; exact putBack_len as So S
  | .b x :: as, m :: So, S => by unfold putBack; exact putBack_len as So S
theorem putBack_get : ∀ {as : List Ar} {So S : List M} {i : Nat} {m : M}, as.length = So.length → ndB (slots as) = true → (putBack as So S)[i]? = some m →
    (S[i]? = some m ∧ Ar.s i ∉ as) ∨ ∃ (j : Nat) (n : M), as[j]? = some (Ar.s i) ∧ So[j]? = some n ∧ m = n.nb
  | [], So, S, i, m, hl, nd, h => by cases So <;> exact .inl ⟨h, by simp⟩
  | a :: as, [], S, i, m, hl, nd, h => by cases hl
  | .d x :: as, n :: So, S, i, m, hl, nd, h => by
    rcases putBack_get (as := as) (So := So) (by simpa using hl) (by simpa [slots, List.filterMap_cons, Ar.slot?] using nd) (show (putBack as So S)[i]? = some m from h) with ⟨a, b⟩ | ⟨j, n', a, b, c⟩
    · exact .inl ⟨a, fun z => (List.mem_cons.mp z).elim (fun z => nomatch z) b⟩
    · exact .inr ⟨j + 1, n', a, b, c⟩
  | .b x :: as, n :: So, S, i, m, hl, nd, h => by
    rcases putBack_get (as := as) (So := So) (by simpa using hl) (by simpa [slots, List.filterMap_cons, Ar.slot?] using nd) (show (putBack as So S)[i]? = some m from h) with ⟨a, b⟩ | ⟨j, n', a, b, c⟩
    · exact .inl ⟨a, fun z => (List.mem_cons.mp z).elim (fun z => nomatch z) b⟩
    · exact .inr ⟨j + 1, n', a, b, c⟩
  | .s k :: as, n :: So, S, i, m, hl, nd, h => by
    have nd' : (!(slots as).contains k) = true ∧ ndB (slots as) = true := by
      have e : slots (.s k :: as) = k :: slots as := rfl
      rw [e] at nd
      unfold ndB at nd
      rw [Bool.and_eq_true] at nd
      exact nd
    rcases putBack_get (as := as) (So := So) (by simpa using hl) nd'.2 (show (putBack as So (S.set k n.nb))[i]? = some m from h) with ⟨a, b⟩ | ⟨j, n', a, b, c⟩
    · by_cases e : k = i
      · subst e
        have hlt : k < S.length := by
          have := (List.getElem?_eq_some_iff.mp a).1
          rwa [List.length_set] at this
        rw [List.getElem?_set_self hlt] at a
        exact .inr ⟨0, n, rfl, rfl, (Option.some.inj a).symm⟩
      · rw [List.getElem?_set_ne e] at a
        exact .inl ⟨a, fun z => (List.mem_cons.mp z).elim (fun z => e (Ar.s.inj z).symm) b⟩
    · exact .inr ⟨j + 1, n', a, b, c⟩
theorem arOne_of {as : List Ar} (h : arChk S as = true) {a : Ar} (ha : a ∈ as) : arOne S (slots as) a = true := by
  unfold arChk at h
  rw [Bool.and_eq_true, List.all_eq_true] at h
  exact h.1 a ha
theorem nd_of {as : List Ar} (h : arChk S as = true) : ndB (slots as) = true := by
  unfold arChk at h
  rw [Bool.and_eq_true] at h
  exact h.2
theorem own_of {as : List Ar} (h : arChk S as = true) {i : Nat} (ha : Ar.s i ∈ as) : ∃ m, S[i]? = some m ∧ m.own = true := by
  have q : (match S[i]? with | some m => m.own | none => false) = true := arOne_of h ha
  cases e : S[i]? with
  | none => rw [e] at q; cases q
  | some m => rw [e] at q; exact ⟨m, rfl, q⟩
theorem call_core0 {as : List Ar} {vs : List V} {R0 : D → List M → Prop} (R1 : Rs K Pn pl G H0 H σ S) (ha : Arels K H0 σ as vs) (ok : arChk S as = true) (hc : C (as.map (arM S)) R0) {Q : VK} {E : XK}
    (q : ∀ d So v H0' H', R0 d So → Gr G H0 H0' → Rs K Pn pl G H0' H' σ (putBack as So S) → Rp K H0' d v → Q v H') : spD K C vs H Q E := by
  -- a passed address is an own one
  have psd : ∀ l, Psd σ as l → H0 l = none ∧ G l = none ∧ H l ≠ none := fun l ⟨i, hi, e⟩ => by
    obtain ⟨m, hm, ho⟩ := own_of ok hi
    obtain ⟨ov, h1, h2⟩ := R1.sl i m hm
    obtain ⟨l', e1, e2, e3, e4⟩ := h2.addr ho
    rw [e] at h1
    cases h1
    cases e1
    exact ⟨e2, e3, e4⟩
  have exG : Ex G (Gc σ as H) := fun a o e => by
    rw [Gc_at fun z => by rw [(psd a z).2.1] at e; cases e]
    exact R1.eg a o e
  refine ⟨_, _, Gc σ as H, H0, hc, ⟨by rw [List.length_map, List.length_map, Paired.len ha], R1.e0, Gc_ex, fun j m hj => ?_, fun j1 j2 m1 m2 h1 h2 o1 o2 e => ?_, fun i hi => by cases hi⟩, fun d So v H02 H2 hr g2 R2 p => ?_⟩
  · rw [List.getElem?_map] at hj
    cases hq : as[j]? with
    | none => rw [hq] at hj; cases hj
    | some a =>
      rw [hq] at hj
      cases hj
      obtain ⟨v, hv, hrel⟩ := Paired.get ha hq
      refine ⟨some v, by rw [List.getElem?_map, hv]; rfl, ?_⟩
      have one := arOne_of ok (List.mem_of_getElem? hq)
      cases a with
      | d x => exact ⟨v, rfl, hrel⟩
      | s i =>
        obtain ⟨m, hm, ho⟩ := own_of ok (List.mem_of_getElem? hq)
        have hrel' : σ[i]? = some (some v) := hrel
        obtain ⟨ov, h1, h2⟩ := R1.sl i m hm
        rw [hrel'] at h1
        cases h1
        have pa : ∀ l, v = .ref l → Gc σ as H l = none := fun l e => Gc_no ⟨i, List.mem_of_getElem? hq, by rw [hrel', e]⟩
        have am : arM S (.s i) = m := by simp only [arM, hm]
        rw [am]
        cases m with
        | no => cases ho
        | d x => cases ho
        | b x => cases ho
        | q ns => cases ho
        | o x => obtain ⟨l, k1, k2, k3, k4⟩ := h2; cases k1; exact ⟨l, rfl, k2, pa l rfl, k4⟩
        | e φ => obtain ⟨l, x, kx, k1, k2, k3, k4⟩ := h2; cases k1; exact ⟨l, x, kx, rfl, k2, pa l rfl, k4⟩
      | b i =>
        have hrel' : σ[i]? = some (some v) := hrel
        have one : ((!(slots as).contains i) && match S[i]? with
          | some m => m.rdB
          | none => false) = true := one
        rw [Bool.and_eq_true] at one
        have nos : Ar.s i ∉ as := fun z => by
          have := mem_slots.mpr z
          have h1 := one.1
          rw [Bool.not_eq_true', List.contains_eq_mem] at h1
          exact absurd this (of_decide_eq_false h1)
        cases hm : S[i]? with
        | none => rw [show arM S (.b i) = .no by simp only [arM, hm]]; trivial
        | some m =>
          obtain ⟨ov, h1, h2⟩ := R1.sl i m hm
          rw [hrel'] at h1
          cases h1
          simp only [arM, hm]
          cases m with
          | no => trivial
          | e φ => trivial
          | d x => exact h2
          | o x =>
            obtain ⟨l, k1, k2, k3, k4⟩ := h2
            refine ⟨l, k1, k4.at (Gc_at fun ⟨i', hi', e'⟩ => ?_)⟩
            obtain ⟨m', hm', ho'⟩ := own_of ok hi'
            have ei := R1.ap i i' _ m' hm hm' rfl ho' (by rw [hrel', e', k1])
            rw [← ei] at hi'
            exact nos hi'
          | b x =>
            obtain ⟨l, k1, k2⟩ := h2
            exact ⟨l, k1, k2.mono exG⟩
          | q ns =>
            obtain ⟨l, k1, k2⟩ := h2
            exact ⟨l, k1, ex_l exG k2⟩
  · rw [List.getElem?_map] at h1 h2
    cases q1 : as[j1]? with
    | none => rw [q1] at h1; cases h1
    | some a1 =>
      cases q2 : as[j2]? with
      | none => rw [q2] at h2; cases h2
      | some a2 =>
        rw [q1] at h1
        rw [q2] at h2
        cases h1
        cases h2
        have isS : ∀ a : Ar, (arM S a).own = true → ∃ i, a = .s i := fun a h => by
          cases a with
          | s i => exact ⟨i, rfl⟩
          | d x => cases h
          | b i =>
            cases hm : S[i]? with
            | none => simp only [arM, hm] at h; cases h
            | some m => simp only [arM, hm] at h; cases m <;> cases h
        obtain ⟨i1, rfl⟩ := isS a1 o1
        obtain ⟨i2, rfl⟩ := isS a2 o2
        obtain ⟨v1, hv1, r1⟩ := Paired.get ha q1
        obtain ⟨v2, hv2, r2⟩ := Paired.get ha q2
        have r1' : σ[i1]? = some (some v1) := r1
        have r2' : σ[i2]? = some (some v2) := r2
        rw [List.getElem?_map, List.getElem?_map, hv1, hv2] at e
        have ev : v1 = v2 := Option.some.inj (Option.some.inj e)
        obtain ⟨m1, hm1, ho1⟩ := own_of ok (List.mem_of_getElem? q1)
        obtain ⟨m2, hm2, ho2⟩ := own_of ok (List.mem_of_getElem? q2)
        have ei := R1.ap i1 i2 m1 m2 hm1 hm2 ho1 ho2 (by rw [r1', r2', ev])
        subst ei
        exact nd_uniq (nd_of ok) q1 q2
  · refine q d _ v H02 H2 hr (g2.sub fun a k => ?_) ⟨by rw [putBack_len]; exact R1.len, R2.e0, exG.trans R2.eg, fun i m hi => ?_, fun i j a b hi hj oa ob e => ?_, R1.pin⟩ p
    · cases z : G a with
      | none => exact absurd z k
      | some o => rw [exG a o z]; exact fun z => nomatch z
    · have hSo : as.length = So.length := by have := R2.len; rw [List.length_map] at this; rw [Paired.len ha, this]
      rcases putBack_get hSo (nd_of ok) hi with ⟨hS, hn⟩ | ⟨j, n, hj, hn, rfl⟩
      · obtain ⟨ov, h1, h2⟩ := R1.sl i m hS
        refine ⟨ov, h1, ?_⟩
        have free : ∀ l, ov = some (.ref l) → m.own = true → ¬ Psd σ as l := fun l el ho ⟨i', hi', e'⟩ => by
          obtain ⟨m', hm', ho'⟩ := own_of ok hi'
          have ei := R1.ap i i' _ m' hS hm' ho ho' (by rw [h1, e', el])
          rw [← ei] at hi'
          exact hn hi'
        cases m with
        | no => trivial
        | d x => obtain ⟨w, k1, k2⟩ := h2; exact ⟨w, k1, Rp.mono g2.ex _ _ k2⟩
        | b x => obtain ⟨l, k1, k2⟩ := h2; exact ⟨l, k1, k2.mono0 g2.ex⟩
        | q ns => exact h2
        | o x =>
          obtain ⟨l, k1, k2, k3, k4⟩ := h2
          have hG : Gc σ as H l = H l := Gc_at (free l k1 rfl)
          exact ⟨l, k1, g2.out (by rw [hG]; exact k4.some) k2, k3, ((k4.at hG).mono R2.eg).mono0 g2.ex⟩
        | e φ =>
          obtain ⟨l, x, kx, k1, k2, k3, k4⟩ := h2
          have hG : Gc σ as H l = H l := Gc_at (free l k1 rfl)
          exact ⟨l, x, kx, k1, g2.out (by rw [hG]; exact k4.some) k2, k3, ((k4.at hG).mono R2.eg).mono0 g2.ex⟩
      · obtain ⟨w, hw, hrel⟩ := Paired.get ha hj
        have hrel' : σ[i]? = some (some w) := hrel
        obtain ⟨ov, h1, h2⟩ := R2.sl j n hn
        rw [List.getElem?_map, hw] at h1
        cases h1
        refine ⟨some w, hrel', ?_⟩
        have gb : ∀ l, w = .ref l → G l = none := fun l e => (psd l ⟨i, List.mem_of_getElem? hj, by rw [hrel', e]⟩).2.1
        cases n with
        | no => trivial
        | b x => trivial
        | q ns => trivial
        | d x => exact h2
        | o x => obtain ⟨l, k1, k2, k3, k4⟩ := h2; exact ⟨l, k1, k2, gb l (Option.some.inj k1), k4⟩
        | e φ => obtain ⟨l, x, kx, k1, k2, k3, k4⟩ := h2; exact ⟨l, x, kx, k1, k2, gb l (Option.some.inj k1), k4⟩
    · have hSo : as.length = So.length := by have := R2.len; rw [List.length_map] at this; rw [Paired.len ha, this]
      have back : ∀ (i : Nat) (m : M), (putBack as So S)[i]? = some m → m.own = true → ∃ m', S[i]? = some m' ∧ m'.own = true := fun i m hi ho => by
        rcases putBack_get hSo (nd_of ok) hi with ⟨hS, hn⟩ | ⟨j, n, hj, hn, rfl⟩
        · exact ⟨m, hS, ho⟩
        · exact own_of ok (List.mem_of_getElem? hj)
      obtain ⟨a', x1, x2⟩ := back i a hi oa
      obtain ⟨b', y1, y2⟩ := back j b hj ob
      exact R1.ap i j a' b' x1 y1 x2 y2 e
theorem call_core {as : List Ar} {vs : List V} (R1 : Rs K Pn pl G H0 H σ S) (ha : Arels K H0 σ as vs) (ok : arChk S as = true) (hc : C (as.map (arM S)) fun d So => R d (putBack as So S)) {Q : VK} {E : XK}
    (q : ∀ d S' v H0' H', R d S' → Gr G H0 H0' → Rs K Pn pl G H0' H' σ S' → Rp K H0' d v → Q v H') : spD K C vs H Q E := call_core0 R1 ha ok hc fun d So v H0' H' r => q d _ v H0' H' r
/-- f(..) -/
theorem evn_call {ta : TA} {E : XK} (h : ArN K ta S fun as S1 => arChk S1 as = true ∧ C (as.map (arM S1)) fun d So => R d (putBack as So S1)) : EvN K (tCall (spD K C) [] E ta) S R := fun Pn pl G H0 H σ Rr Q q =>
  h Pn pl G H0 H σ Rr _ fun as S1 vs H01 H1 ⟨ok, hc⟩ g1 R1 ha => by
    rw [List.append_nil]
    exact call_core R1 ha ok hc fun d S' v H0' H' r g R' p => q d S' v H0' H' r (g1.trans g) R' p

/-- an instance in a slot -/
def M.insOf (Ca : Addr) (f : PySem.Str) : M → Prop
  | .d x => ∃ ns ds, x = .ins Ca ns ds ∧ ns.length = ds.length ∧ f ∉ ns
  | .b x => ∃ ns ds, x = .ins Ca ns ds ∧ ns.length = ds.length ∧ f ∉ ns
  | .o x => ∃ ns ds, x = .ins Ca ns ds ∧ ns.length = ds.length ∧ f ∉ ns
  | .e φ => ∀ x, φ x → ∃ ns ds, x = .ins Ca ns ds ∧ ns.length = ds.length ∧ f ∉ ns
  | .no => False
  | .q _ => False
theorem lookup_no {f : PySem.Str} : ∀ {ns : List PySem.Str} {vs : List V}, f ∉ ns → (ns.zip vs).lookup f = none
  | [], vs, _ => by cases vs <;> rfl
  | n :: ns, [], _ => rfl
  | n :: ns, v :: vs, h => by
    have hb : (f == n) = false := beq_eq_false_iff_ne.mpr fun z => h (by rw [z]; simp)
    rw [List.zip_cons_cons]
    simp only [List.lookup, hb]
    exact lookup_no fun z => h (List.mem_cons_of_mem _ z)
theorem ins_slot {Ca : Addr} {f : PySem.Str} {m : M} {ov : Option V} (e0 : Ex H0 H) (eg : Ex G H) (h : Rm K G H0 H m ov) (hm : m.insOf Ca f) : ∃ a dx fs, ov = some (.ref a) ∧ H a = some (.ins Ca dx fs) ∧ fs.lookup f = none := by
  have key : ∀ {H' : Hp} {ns : List PySem.Str} {ds : List D} {l : Addr}, Ex H' H → f ∉ ns → Ro K H0 H' (.ins Ca ns ds) l → ∃ dx fs, H l = some (.ins Ca dx fs) ∧ fs.lookup f = none := fun {H' ns ds l} e hf o => by
    obtain ⟨dx, vs, k1, k2, k3⟩ := o
    exact ⟨dx, _, e _ _ k1, lookup_no hf⟩
  cases m with
  | no => exact hm.elim
  | q ns => exact hm.elim
  | d x =>
    obtain ⟨ns, ds, rfl, _, hf⟩ := hm
    obtain ⟨v, rfl, p⟩ := h
    unfold Rp at p
    obtain ⟨a, dx, vs, rfl, k1, k2, k3⟩ := p
    exact ⟨a, dx, _, rfl, e0 _ _ k1, lookup_no hf⟩
  | b x =>
    obtain ⟨ns, ds, rfl, _, hf⟩ := hm
    obtain ⟨l, rfl, o⟩ := h
    obtain ⟨dx, fs, k⟩ := key eg hf o
    exact ⟨l, dx, fs, rfl, k⟩
  | o x =>
    obtain ⟨ns, ds, rfl, _, hf⟩ := hm
    obtain ⟨l, rfl, _, _, o⟩ := h
    obtain ⟨dx, fs, k⟩ := key (Ex.refl _) hf o
    exact ⟨l, dx, fs, rfl, k⟩
  | e φ =>
    obtain ⟨l, x, kx, rfl, _, _, o⟩ := h
    obtain ⟨ns, ds, rfl, _, hf⟩ := hm x kx
    obtain ⟨dx, fs, k⟩ := key (Ex.refl _) hf o
    exact ⟨l, dx, fs, rfl, k⟩
def arV (i : Nat) (m : M) : Ar := if m.own then .s i else .b i
/-- x.m(..), x a name -/
theorem evn_meth {Ca : Addr} {f : PySem.Str} {i : Nat} {m : M} {ta : TA} {E : XK} (h0 : S[i]? = some m) (hm : m.insOf Ca f) (h : ArN K ta S fun as S1 => arChk S1 (arV i m :: as) = true ∧ C ((arV i m :: as).map (arM S1)) fun d So => R d (putBack (arV i m :: as) So S1)) :
    EvN K (tMeth Ca f (spD K C) [] E (tVar i) ta) S R := fun Pn pl G H0 H σ Rr Q q => by
  obtain ⟨ov, h1, h2⟩ := Rr.sl i m h0
  obtain ⟨a, dx, fs, rfl, k1, k2⟩ := ins_slot Rr.e0 Rr.eg h2 hm
  refine ⟨.ref a, h1, a, dx, fs, rfl, k1, k2, h Pn pl G H0 H σ Rr _ fun as S1 vs H01 H1 ⟨ok, hc⟩ g1 R1 ha => ?_⟩
  rw [List.append_nil]
  have hA : Arel K H01 σ (arV i m) (.ref a) := by
    unfold arV
    split
    · exact h1
    · exact h1
  exact call_core R1 (.cons hA ha) ok hc fun d S' v H0' H' r g R' p => q d S' v H0' H' r (g1.trans g) R' p
/-- e.m(..), e gives an instance for good -/
theorem evn_methd {Ca : Addr} {f : PySem.Str} {ns : List PySem.Str} {ds : List D} {to : TE} {ta : TA} {E : XK} (h0 : EvP K to S (.ins Ca ns ds)) (hf : f ∉ ns)
    (h : ArN K ta S fun as S1 => arChk S1 as = true ∧ C (.d (.ins Ca ns ds) :: as.map (arM S1)) fun d So => R d (putBack (.d (.ins Ca ns ds) :: as) So S1)) :
    EvN K (tMeth Ca f (spD K C) [] E to ta) S R := fun Pn pl G H0 H σ Rr Q q => h0 Pn pl G H0 H σ Rr _ fun v H01 H1 g1 e1 R1 p1 => by
  have p1' := p1
  unfold Rp at p1'
  obtain ⟨a, dx, vs, rfl, k1, k2, k3⟩ := p1'
  refine ⟨a, dx, _, rfl, R1.e0 _ _ k1, lookup_no hf, h Pn pl G H01 H1 σ R1 _ fun as S1 vs' H02 H2 ⟨ok, hc⟩ g2 R2 ha => ?_⟩
  rw [List.append_nil]
  have ok' : arChk S1 (.d (.ins Ca ns ds) :: as) = true := by
    unfold arChk at *
    exact ok
  exact call_core R2 (.cons (show Arel K H02 σ (.d (.ins Ca ns ds)) (.ref a) from Rp.mono g2.ex _ _ p1) ha) ok' hc fun d S' v H0' H' r g R' p => q d S' v H0' H' r ((g1.trans g2).trans g) R' p
/-! ### C(..) -/
theorem Rs.push (R : Rs K Pn pl G H0 H σ S) {p : Addr} {x : D} (h0 : H0 p = none) (hg : G p = none) (ap : Apart σ S p) (o : Ro K H0 H x p) : Rs K Pn pl G H0 H (σ ++ [some (.ref p)]) (S ++ [.o x]) where
  len := by rw [List.length_append, List.length_append, R.len]; rfl
  e0 := R.e0
  eg := R.eg
  sl := fun i m h => by
    by_cases q : i < S.length
    · rw [List.getElem?_append_left q] at h
      rw [List.getElem?_append_left (by rw [R.len]; exact q)]
      exact R.sl i m h
    · rw [List.getElem?_append_right (by omega)] at h
      rw [List.getElem?_append_right (by rw [R.len]; omega), R.len]
      have e : i - S.length = 0 := by
        have := (List.getElem?_eq_some_iff.mp h).1
        simp at this
        exact this
      rw [e] at h ⊢
      cases h
      exact ⟨_, rfl, p, rfl, h0, hg, o⟩
  ap := fun i j a b ha hb oa ob e => by
    have at_ : ∀ (k : Nat) (m : M), (S ++ [M.o x])[k]? = some m → (k < S.length ∧ S[k]? = some m ∧ (σ ++ [some (V.ref p)])[k]? = σ[k]?) ∨ (k = S.length ∧ (σ ++ [some (V.ref p)])[k]? = some (some (V.ref p))) := fun k m h => by
      by_cases q : k < S.length
      · rw [List.getElem?_append_left q] at h
        exact .inl ⟨q, h, List.getElem?_append_left (by rw [R.len]; exact q)⟩
      · rw [List.getElem?_append_right (by omega)] at h
        have e : k - S.length = 0 := by
          have := (List.getElem?_eq_some_iff.mp h).1
          simp at this
          exact this
        refine .inr ⟨by omega, ?_⟩
        rw [List.getElem?_append_right (by rw [R.len]; omega), R.len, e]
        rfl
    rcases at_ i a ha with ⟨a1, a2, a3⟩ | ⟨a1, a2⟩
    · rcases at_ j b hb with ⟨b1, b2, b3⟩ | ⟨b1, b2⟩
      · rw [a3, b3] at e; exact R.ap i j a b a2 b2 oa ob e
      · rw [a3, b2] at e; exact absurd e (ap i a a2 oa)
    · rcases at_ j b hb with ⟨b1, b2, b3⟩ | ⟨b1, b2⟩
      · rw [b3, a2] at e; exact absurd e.symm (ap j b b2 ob)
      · omega
  pin := fun i hi => by
    have h := R.pin i hi
    rw [List.getElem?_append_left (List.getElem?_eq_some_iff.mp h).1]
    exact h
theorem Rs.pop {x : D} {v : V} (R : Rs K Pn pl G H0 H (σ ++ [some v]) (S ++ [.o x])) (pin : ∀ i, i ∈ Pn → σ[i]? = some (some (pl i))) : Rs K Pn pl G H0 H σ S ∧ ∃ p, v = .ref p ∧ H0 p = none ∧ G p = none ∧ Apart σ S p ∧ Ro K H0 H x p := by
  have hl : σ.length = S.length := by have := R.len; rw [List.length_append, List.length_append, List.length_singleton, List.length_singleton] at this; omega
  have sg : ∀ (i : Nat) (m : M), S[i]? = some m → (S ++ [M.o x])[i]? = some m ∧ (σ ++ [some v])[i]? = σ[i]? ∧ i < S.length := fun i m h => by
    have := (List.getElem?_eq_some_iff.mp h).1
    exact ⟨by rw [List.getElem?_append_left this]; exact h, List.getElem?_append_left (by omega), this⟩
  obtain ⟨ov, h1, l, e1, h2, h3, h4⟩ := R.sl S.length (.o x) (by rw [List.getElem?_append_right (Nat.le_refl _), Nat.sub_self]; rfl)
  subst e1
  have h1' := h1
  rw [List.getElem?_append_right (by omega), show S.length - σ.length = 0 by omega] at h1
  cases h1
  refine ⟨⟨hl, R.e0, R.eg, fun i m h => ?_, fun i j a b ha hb oa ob e => ?_, pin⟩, l, rfl, h2, h3, fun i m h ho z => ?_, h4⟩
  · obtain ⟨a, b, c⟩ := sg i m h
    obtain ⟨ov, k1, k2⟩ := R.sl i m a
    rw [b] at k1
    exact ⟨ov, k1, k2⟩
  · obtain ⟨a1, a2, a3⟩ := sg i a ha
    obtain ⟨b1, b2, b3⟩ := sg j b hb
    exact R.ap i j a b a1 b1 oa ob (by rw [a2, b2, e])
  · obtain ⟨a1, a2, a3⟩ := sg i m h
    have := R.ap i S.length m (.o x) a1 (by rw [List.getElem?_append_right (Nat.le_refl _), Nat.sub_self]; rfl) ho rfl (by rw [a2, z, h1'])
    omega
theorem putBack_app : ∀ (as : List Ar) (So S : List M) (m : M), (∀ i, Ar.s i ∈ as → i < S.length) → putBack as So (S ++ [m]) = putBack as So S ++ [m]
  | [], So, S, m, _ => by cases So <;> rfl
  | a :: as, [], S, m, _ => by cases a <;> rfl
  | .d x :: as, n :: So, S, m, h => by show putBack as So (S ++ [m]) = putBack as So S ++ [m]; exact putBack_app as So S m fun i hi => h i (List.mem_cons_of_mem _ hi)
  | .b x :: as, n :: So, S, m, h => by show putBack as So (S ++ [m]) = putBack as So S ++ [m]; exact putBack_app as So S m fun i hi => h i (List.mem_cons_of_mem _ hi)
  | .s k :: as, n :: So, S, m, h => by
    show putBack as So ((S ++ [m]).set k n.nb) = putBack as So (S.set k n.nb) ++ [m]
    rw [List.set_append_left _ _ (h k (by simp))]
    exact putBack_app as So (S.set k n.nb) m fun i hi => by rw [List.length_set]; exact h i (List.mem_cons_of_mem _ hi)
theorem arM_app {as : List Ar} {x : D} (ok : arChk S as = true) : as.map (arM (S ++ [.o x])) = as.map (arM S) := by
  refine List.map_congr_left fun a ha => ?_
  have one := arOne_of ok ha
  cases a with
  | d y => rfl
  | s i =>
    obtain ⟨m, hm, _⟩ := own_of ok ha
    have hl := (List.getElem?_eq_some_iff.mp hm).1
    simp only [arM, List.getElem?_append_left hl]
  | b i =>
    have one : ((!(slots as).contains i) && match S[i]? with
          | some m => m.rdB
          | none => false) = true := one
    cases hm : S[i]? with
    | none => rw [hm, Bool.and_false] at one; cases one
    | some m =>
      have hl := (List.getElem?_eq_some_iff.mp hm).1
      simp only [arM, List.getElem?_append_left hl]
theorem evo_make {Ca : Addr} {ta : TA} {E : XK} (h : ArN K ta S fun as S1 => arChk S1 as = true ∧ C (.o (.ins Ca [] []) :: as.map (arM S1)) fun d So => d = .non ∧ ∃ x So', So = .o x :: So' ∧ R x (putBack as So' S1)) :
    EvO K (tMake Ca (spD K C) [] E ta) S R := fun Pn pl G H0 H σ Rr Q q => h Pn pl G H0 H σ Rr _ fun as S1 vs H01 H1 ⟨ok, hc⟩ g1 R1 ha x dx hx hdx ne => by
  rw [List.append_nil]
  have R2 : Rs K Pn pl G H01 (upd (upd H1 dx (.own x)) x (.ins Ca dx [])) σ S1 := R1.grow ((Ex.new hdx).trans (Ex.new (by rw [upd_ne ne.symm]; exact hx)))
  obtain ⟨a0, ag, aap⟩ := R1.own_new hx
  have R3 := R2.push a0 ag aap (x := .ins Ca [] []) ⟨dx, [], upd_same, rfl, rfl⟩
  have hlt : ∀ i, Ar.s i ∈ as → i < S1.length := fun i hi => by
    obtain ⟨m, hm, _⟩ := own_of ok hi
    exact (List.getElem?_eq_some_iff.mp hm).1
  have ok2 : arChk (S1 ++ [.o (.ins Ca [] [])]) (.s S1.length :: as) = true := by
    unfold arChk
    rw [Bool.and_eq_true, List.all_eq_true]
    have nin : S1.length ∉ slots as := fun z => Nat.lt_irrefl _ (hlt _ (mem_slots.mp z))
    refine ⟨fun a ha' => ?_, ?_⟩
    · rcases List.mem_cons.mp ha' with e | ha'
      · subst e
        simp only [arOne, List.getElem?_append_right (Nat.le_refl _), Nat.sub_self]
        rfl
      · have one := arOne_of ok ha'
        cases a with
        | d y => rfl
        | s i =>
          have hl := hlt i ha'
          obtain ⟨m, hm, ho⟩ := own_of ok ha'
          simp only [arOne, List.getElem?_append_left hl, hm]
          exact ho
        | b i =>
          have one : ((!(slots as).contains i) && match S1[i]? with
            | some m => m.rdB
            | none => false) = true := one
          cases hm : S1[i]? with
          | none => rw [hm, Bool.and_false] at one; cases one
          | some m =>
            have hl := (List.getElem?_eq_some_iff.mp hm).1
            rw [hm] at one
            rw [Bool.and_eq_true] at one
            have e1 : (slots (.s S1.length :: as)).contains i = false := by
              show (S1.length :: slots as).contains i = false
              have h1 := one.1
              rw [Bool.not_eq_true', List.contains_eq_mem] at h1
              rw [List.contains_eq_mem]
              refine decide_eq_false fun z => (List.mem_cons.mp z).elim (fun z => ?_) (of_decide_eq_false h1)
              omega
            simp only [arOne, e1, List.getElem?_append_left hl, hm, Bool.not_false, Bool.true_and]
            exact one.2
    · show ((!(slots as).contains S1.length) && ndB (slots as)) = true
      rw [nd_of ok, Bool.and_true, List.contains_eq_mem, decide_eq_false nin]
      rfl
  have hA : Arels K H01 (σ ++ [some (.ref x)]) (.s S1.length :: as) (.ref x :: vs) := by
    refine .cons ?_ ?_
    · show (σ ++ [some (V.ref x)])[S1.length]? = _
      rw [← R1.len, List.getElem?_append_right (Nat.le_refl _), Nat.sub_self]; rfl
    · have key : ∀ {bs : List Ar} {ws : List V}, Arels K H01 σ bs ws → Arels K H01 (σ ++ [some (.ref x)]) bs ws := fun {bs ws} h => by
        induction h with
        | nil => exact .nil
        | cons r t ih =>
          refine .cons ?_ ih
          rename_i a b _ _
          cases a with
          | d y => exact r
          | b i =>
            have r' : σ[i]? = _ := r
            show (σ ++ [some (V.ref x)])[i]? = _
            rw [List.getElem?_append_left (List.getElem?_eq_some_iff.mp r').1]; exact r'
          | s i =>
            have r' : σ[i]? = _ := r
            show (σ ++ [some (V.ref x)])[i]? = _
            rw [List.getElem?_append_left (List.getElem?_eq_some_iff.mp r').1]; exact r'
      exact key ha
  have eA : (Ar.s S1.length :: as).map (arM (S1 ++ [.o (.ins Ca [] [])])) = .o (.ins Ca [] []) :: as.map (arM S1) := by
    rw [List.map_cons, arM_app ok]
    simp only [arM, List.getElem?_append_right (Nat.le_refl _), Nat.sub_self]
    rfl
  refine call_core0 R3 hA ok2 (eA ▸ hc) fun d So v H0' H' ⟨ed, y, So', eS, r⟩ g R' p => ?_
  subst ed eS
  have eB : putBack (Ar.s S1.length :: as) (.o y :: So') (S1 ++ [.o (.ins Ca [] [])]) = putBack as So' S1 ++ [.o y] := by
    show putBack as So' ((S1 ++ [M.o (.ins Ca [] [])]).set S1.length (M.o y)) = _
    rw [List.set_append_right _ _ (Nat.le_refl _), Nat.sub_self]
    exact putBack_app as So' S1 (.o y) hlt
  rw [eB] at R'
  have pv : v = .non := p
  obtain ⟨R4, l, e1, e2, e3, e4, e5⟩ := R'.pop R1.pin
  cases e1
  exact ⟨pv, q y _ x H0' H' r (g1.trans g) R4 e2 e3 e4 e5⟩
end
end Dl
/-! Stores to fields and dicts; a def's body keeps its promise. -/
namespace Dl
open PySem L2 Evl PyProof.Rows

def putN (f : PySem.Str) : List PySem.Str → List PySem.Str
  | [] => [f]
  | n :: ns => if n = f then n :: ns else n :: putN f ns
def putX {α : Type} (f : PySem.Str) (d : α) : List PySem.Str → List α → List α
  | n :: ns, x :: xs => if n = f then d :: xs else x :: putX f d ns xs
  | _, _ => [d]
section
variable {K : PySem.W.Frag} {Pn : List Nat} {pl : Nat → V} {G H0 H H1 H2 : Hp} {σ : L2.St} {S : List M} {P : Post} {te tv ty : TE} {i : Nat}
theorem putF_zip (f : PySem.Str) (y : V) : ∀ (ns : List PySem.Str) (vs : List V), ns.length = vs.length → putF f y (ns.zip vs) = (putN f ns).zip (putX f y ns vs) ∧ (putN f ns).length = (putX f y ns vs).length
  | [], [], _ => ⟨rfl, rfl⟩
  | n :: ns, v :: vs, h => by
    have ih := putF_zip f y ns vs (by simpa using h)
    by_cases q : n = f
    · simp only [List.zip_cons_cons, putF, putN, putX, if_pos q, List.length_cons]
      exact ⟨trivial, by simpa using h⟩
    · simp only [List.zip_cons_cons, putF, putN, putX, if_neg q, List.length_cons]
      exact ⟨by rw [ih.1], by rw [ih.2]⟩
theorem putX_rps {f : PySem.Str} {d : D} {y : V} (p : Rp K H0 d y) : ∀ (ns : List PySem.Str) (ds : List D) (vs : List V), ns.length = vs.length → Rps K H0 ds vs → Rps K H0 (putX f d ns ds) (putX f y ns vs)
  | [], ds, [], _, h => by
    have hl := h.length
    cases ds with
    | nil => exact ⟨y, [], rfl, p, rfl⟩
    | cons _ _ => cases hl
  | n :: ns, [], v :: vs, _, h => by have hl := h.length; cases hl
  | n :: ns, x :: ds, v :: vs, hl, h => by
    obtain ⟨v', r, e, h1, h2⟩ := (show ∃ v' r, v :: vs = v' :: r ∧ Rp K H0 x v' ∧ Rps K H0 ds r by unfold Rps at h; exact h)
    cases e
    by_cases q : n = f
    · simp only [putX, if_pos q]; exact ⟨y, vs, rfl, p, h2⟩
    · simp only [putX, if_neg q]; exact ⟨v, _, rfl, h1, putX_rps p ns ds vs (by simpa using hl) h2⟩
/-- o.f = e, o an own instance -/
theorem st_fld {Ca : Addr} {f : PySem.Str} (c : Cls K Ca) (n : NoAttr K Ca f) (h : EvN K tv S fun d S1 => ∃ ns ds, S1[i]? = some (.o (.ins Ca ns ds)) ∧ ns.length < 1000 ∧ P.nx (S1.set i (.o (.ins Ca (putN f ns) (putX f d ns ds))))) :
    StN K Pn (sFld K (tVar i) tv f) S P := fun pl G H0 H σ R E a b cc e => h Pn pl G H0 H σ R _ fun d S1 v H01 H1 ⟨ns, ds, k1, k2, k3⟩ g1 R1 p1 => by
  obtain ⟨ov, h1, l, e1, h2, h3, dx, vs, h4, h5, h6⟩ := R1.sl i _ k1
  subst e1
  obtain ⟨z1, z2⟩ := putF_zip f v ns vs h5
  refine ⟨_, h1, l, Ca, dx, _, rfl, h4, c, n, by rw [List.length_zip, ← h5, Nat.min_self]; exact k2, ?_⟩
  exact a _ _ H01 _ k3 g1 (R1.write (o := .ins Ca dx (putF f v (ns.zip vs))) k1 rfl h1 ⟨dx, putX f v ns vs, by rw [z1]; exact upd_same, z2, putX_rps p1 ns ds vs h5 h6⟩)
/-- d[k] = e, d an own dict -/
def pAny {κ : Type} [DecidableEq κ] (ks : List κ) (k : κ) : Bool := ks.any fun k' => decide (k' = k)
def pK {κ : Type} [DecidableEq κ] (ks : List κ) (k : κ) : List κ := if pAny ks k = true then ks else ks ++ [k]
def pX {κ : Type} [DecidableEq κ] {α : Type} (ks : List κ) (xs : List α) (k : κ) (d : α) : List α := if pAny ks k = true then List.zipWith (fun k' x => if k' = k then d else x) ks xs else xs ++ [d]
theorem pAny_zip {κ : Type} [DecidableEq κ] (k : κ) : ∀ (ks : List κ) (vs : List V), ks.length = vs.length → ((ks.zip vs).any fun kv => decide (kv.1 = k)) = pAny ks k
  | [], [], _ => rfl
  | a :: ks, v :: vs, h => by
    unfold pAny
    rw [List.zip_cons_cons, List.any_cons, List.any_cons, pAny_zip k ks vs (by simpa using h)]
    rfl
theorem putK_zip {κ : Type} [DecidableEq κ] (ks : List κ) (vs : List V) (k : κ) (v : V) (h : ks.length = vs.length) : putK (ks.zip vs) k v = (pK ks k).zip (pX ks vs k v) ∧ (pK ks k).length = (pX ks vs k v).length := by
  unfold putK pK pX
  rw [pAny_zip k ks vs h]
  by_cases q : pAny ks k = true
  · rw [if_pos q, if_pos q, if_pos q]
    constructor
    · have key : ∀ (ks : List κ) (vs : List V), ks.length = vs.length → (ks.zip vs).map (fun kv => if kv.1 = k then (kv.1, v) else kv) = ks.zip (List.zipWith (fun k' x => if k' = k then v else x) ks vs) := fun ks => by
        induction ks with
        | nil => intro vs h; cases vs <;> rfl
        | cons a ks ih =>
          intro vs h
          cases vs with
          | nil => cases h
          | cons w vs =>
            rw [List.zip_cons_cons, List.map_cons, List.zipWith_cons_cons, List.zip_cons_cons, ih vs (by simpa using h)]
            by_cases z : a = k
            · simp [z]
            · simp [z]
      exact key ks vs h
    · rw [List.length_zipWith, ← h, Nat.min_self]
  · rw [if_neg q, if_neg q, if_neg q]
    exact ⟨by rw [List.zip_append h]; rfl, by simp [h]⟩
theorem pX_rps {κ : Type} [DecidableEq κ] {k : κ} {d : D} {v : V} (p : Rp K H0 d v) (ks : List κ) (ds : List D) (vs : List V) (h : Rps K H0 ds vs) : Rps K H0 (pX ks ds k d) (pX ks vs k v) := by
  unfold pX
  by_cases q : pAny ks k = true
  · rw [if_pos q, if_pos q]
    have key : ∀ (ks : List κ) (ds : List D) (vs : List V), Rps K H0 ds vs → Rps K H0 (List.zipWith (fun k' x => if k' = k then d else x) ks ds) (List.zipWith (fun k' x => if k' = k then v else x) ks vs) := fun ks => by
      induction ks with
      | nil => intro ds vs h; rfl
      | cons a ks ih =>
        intro ds vs h
        cases ds with
        | nil => have e : vs = [] := by unfold Rps at h; exact h
                 subst e; rfl
        | cons x ds =>
          obtain ⟨w, r, rfl, h1, h2⟩ := (show ∃ w r, vs = w :: r ∧ Rp K H0 x w ∧ Rps K H0 ds r by unfold Rps at h; exact h)
          rw [List.zipWith_cons_cons, List.zipWith_cons_cons]
          by_cases z : a = k
          · rw [if_pos z, if_pos z]; exact ⟨v, _, rfl, p, ih ds r h2⟩
          · rw [if_neg z, if_neg z]; exact ⟨w, _, rfl, h1, ih ds r h2⟩
    exact key ks ds vs h
  · rw [if_neg q, if_neg q]
    exact h.append ⟨v, [], rfl, p, rfl⟩
theorem lkD_put {κ : Type} [DecidableEq κ] (ks : List κ) (xs : List D) (k j : κ) (d : D) (h : ks.length = xs.length) : lkD (pK ks k) (pX ks xs k d) j = if k = j then some d else lkD ks xs j := by
  unfold pK pX
  by_cases q : pAny ks k = true
  · rw [if_pos q, if_pos q]
    have key : ∀ (ks : List κ) (xs : List D), ks.length = xs.length → pAny ks k = true ∨ k ≠ j → lkD ks (List.zipWith (fun k' x => if k' = k then d else x) ks xs) j = if k = j then some d else lkD ks xs j := fun ks => by
      induction ks with
      | nil =>
        intro xs h o
        rcases o with o | o
        · cases o
        · cases xs with
          | nil => simp [lkD, o]
          | cons _ _ => cases h
      | cons a ks ih =>
        intro xs h o
        cases xs with
        | nil => cases h
        | cons x xs =>
          rw [List.zipWith_cons_cons]
          by_cases z : a = j
          · subst z
            by_cases w : a = k
            · subst w; simp [lkD]
            · have w' : ¬ k = a := fun e => w e.symm
              simp [lkD, w, w']
          · simp only [lkD, if_neg z]
            refine ih xs (by simpa using h) ?_
            rcases o with o | o
            · unfold pAny at o
              rw [List.any_cons, Bool.or_eq_true] at o
              rcases o with o | o
              · right
                intro e
                have := of_decide_eq_true o
                exact z (this.trans e)
              · exact .inl o
            · exact .inr o
    exact key ks xs h (.inl q)
  · rw [if_neg q, if_neg q]
    have key : ∀ (ks : List κ) (xs : List D), ks.length = xs.length → ¬ pAny ks k = true → lkD (ks ++ [k]) (xs ++ [d]) j = if k = j then some d else lkD ks xs j := fun ks => by
      induction ks with
      | nil =>
        intro xs h o
        cases xs with
        | nil => by_cases z : k = j <;> simp [lkD, z]
        | cons _ _ => cases h
      | cons a ks ih =>
        intro xs h o
        cases xs with
        | nil => cases h
        | cons x xs =>
          have na : ¬ a = k := fun e => o (by unfold pAny; rw [List.any_cons, decide_eq_true e, Bool.true_or])
          have nt : ¬ pAny ks k = true := fun e => o (by unfold pAny at *; rw [List.any_cons, e, Bool.or_true])
          rw [List.cons_append, List.cons_append]
          by_cases z : a = j
          · have w : ¬ k = j := fun e => na (z.trans e.symm)
            simp [lkD, z, w]
          · simp only [lkD, if_neg z]
            exact ih xs (by simpa using h) nt
    exact key ks xs h q
theorem pK_len {κ : Type} [DecidableEq κ] (ks : List κ) (xs : List D) (k : κ) (d : D) (h : ks.length = xs.length) : (pK ks k).length = (pX ks xs k d).length := by
  unfold pK pX
  by_cases q : pAny ks k = true
  · rw [if_pos q, if_pos q, List.length_zipWith, ← h, Nat.min_self]
  · rw [if_neg q, if_neg q]; simp [h]
theorem st_dput (h0 : ∃ ks xs, S[i]? = some (.o (.dk ks xs))) (h : EvN K tv S fun d S1 => (∃ ks xs, S1[i]? = some (.o (.dk ks xs))) ∧ EvN K ty S1 fun y S2 => ∃ k ks xs, y = keyD k ∧ S2[i]? = some (.o (.dk ks xs)) ∧ ks.length < 100000 ∧ P.nx (S2.set i (.o (.dk (pK ks k) (pX ks xs k d))))) :
    StN K Pn (sDPut (tVar i) ty tv) S P := fun pl G H0 H σ R E a b cc e => h Pn pl G H0 H σ R _ fun d S1 v H01 H1 ⟨⟨ks0, xs0, k0⟩, hy⟩ g1 R1 p1 => by
  obtain ⟨ov, h1, l, e1, _, _, vs0, h4, _⟩ := R1.sl i _ k0
  subst e1
  refine ⟨_, h1, hy Pn pl G H01 H1 σ R1 _ fun y S2 w H02 H2 ⟨k, ks, xs, ey, k1, k2, k3⟩ g2 R2 p2 => ?_⟩
  subst ey
  obtain ⟨ov', h1', l', e1', h2', h3', vs, h4', h5', h6'⟩ := R2.sl i _ k1
  subst e1'
  rw [h1] at h1'
  cases h1'
  have ew : w = kV k := by
    cases k with
    | inl n => exact p2
    | inr n => exact p2
  subst ew
  obtain ⟨z1, z2⟩ := putK_zip ks vs k v h5'
  refine ⟨l, _, rfl, DPut.k h4' (by rw [List.length_zip, ← h5', Nat.min_self]; exact sz_lt k2), ?_⟩
  exact a _ _ H02 _ k3 (g1.trans g2) (R2.write (o := .dK (putK (ks.zip vs) k v)) k1 rfl h1 ⟨pX ks vs k v, by rw [z1]; exact upd_same, z2, pX_rps (Rp.mono g2.ex _ _ p1) ks xs vs h6'⟩)
/-! ### a def's body -/
/-- the arguments behind: the pinned slots -/
def outM (Pn : List Nat) : Nat → Nat → List M → List M
  | _, 0, _ => []
  | i, n + 1, [] => []
  | i, n + 1, m :: S => (if Pn.contains i then m else .no) :: outM Pn (i + 1) n S
theorem outM_len (Pn : List Nat) : ∀ (i n : Nat) (S : List M), n ≤ S.length → (outM Pn i n S).length = n
  | i, 0, S, _ => rfl
  | i, n + 1, [], h => by cases h
  | i, n + 1, m :: S, h => by unfold outM; rw [List.length_cons, outM_len Pn (i + 1) n S (by simpa using h)]
theorem outM_get (Pn : List Nat) : ∀ (i n j : Nat) (S : List M) (m : M), (outM Pn i n S)[j]? = some m → m = .no ∨ (S[j]? = some m ∧ i + j ∈ Pn)
  | i, 0, j, S, m, h => by cases h
  | i, n + 1, j, [], m, h => by cases h
  | i, n + 1, 0, a :: S, m, h => by
    unfold outM at h
    have e := Option.some.inj (show some (if Pn.contains i then a else M.no) = some m from h)
    by_cases q : Pn.contains i = true
    · rw [if_pos q] at e
      refine .inr ⟨by rw [← e]; rfl, ?_⟩
      rw [List.contains_eq_mem] at q
      exact of_decide_eq_true q
    · rw [if_neg q] at e; exact .inl e.symm
  | i, n + 1, j + 1, a :: S, m, h => by
    unfold outM at h
    rcases outM_get Pn (i + 1) n j S m h with e | ⟨e1, e2⟩
    · exact .inl e
    · exact .inr ⟨e1, by rw [Nat.add_assoc, Nat.add_comm 1 j] at e2; exact e2⟩
def slot0 (N : List PySem.Str) (S : List M) : List M := S ++ List.replicate (N.length - S.length) .no
theorem okD {P : Program} {w : World} {mg : PySem.Str → Option Value} {base : Heap} {x qual : PySem.Str} {st : Stmt} {f : Addr} {fd : FuncData} {N ps : List PySem.Str} {k : Nat} {C : Ct} (F : Fun K x qual st f fd) (Sc : FnScope N ps (defScope st))
    (hlen : ∀ S R, C S R → S.length = ps.length)
    (hbody : ∀ (cdv : Value) (A : Around) (outer : List Env) (s : Shared) (H : Hp) (E : XK), Room k (A.deeper (envOfC qual (defScope st) s.heap.objs.size f cdv)) →
      ∃ t, PSs (cxOf CX0 P w K mg base N qual (defScope st) f cdv A outer s H E).nox (defBody st) t ∧
        ∀ S R, C S R → ∃ Pn : List Nat, (∀ i ∈ Pn, i < ps.length) ∧ (∀ i ∈ Pn, ∀ m, S[i]? = some m → m.own = true) ∧ StN K Pn t (slot0 N S) ⟨fun S' => ps.length ≤ S'.length ∧ R .non (outM Pn 0 ps.length S'), fun d S' => ps.length ≤ S'.length ∧ R d (outM Pn 0 ps.length S'), fun _ => False, fun _ => False⟩) :
    FnOk P w K mg base CX0 (k + 1) f fd ps (spD K C) := by
  refine F.ok Sc (fun vs H Q E h => ?_) (fun cdv A outer s H vs Q E hr h => ?_)
  · obtain ⟨S, R, G, H0, hc, R0, _⟩ := h
    rw [← hlen S R hc, ← R0.len, List.length_map]
  · obtain ⟨S, R, G, H0, hc, R0, q⟩ := h
    obtain ⟨t, ht, hb⟩ := hbody cdv A outer s H E hr
    obtain ⟨Pn, hp, hown, hst⟩ := hb S R hc
    refine ⟨t, ht, ?_⟩
    have hS := hlen S R hc
    have hvl : vs.length = S.length := by have := R0.len; rwa [List.length_map] at this
    have hpn : ps.length ≤ N.length := by have := congrArg List.length Sc.pre; rw [List.length_take] at this; omega
    have left : ∀ i, i < vs.length → (L2.start N vs)[i]? = (vs.map some)[i]? := fun i hi => by
      unfold L2.start
      rw [List.getElem?_append_left (by rw [List.length_map]; exact hi)]
    have R1 : Rs K Pn (fun i => vs.getD i .non) G H0 H (L2.start N vs) (slot0 N S) := by
      refine ⟨?_, R0.e0, R0.eg, fun i m h => ?_, fun i j a b ha hb oa ob e => ?_, fun i hi => ?_⟩
      · unfold L2.start slot0
        rw [List.length_append, List.length_append, List.length_map, List.length_replicate, List.length_replicate, hvl]
      · by_cases hi : i < S.length
        · unfold slot0 at h
          rw [List.getElem?_append_left hi] at h
          rw [left i (by omega)]
          exact R0.sl i m h
        · unfold slot0 at h
          rw [List.getElem?_append_right (by omega), List.getElem?_replicate] at h
          split at h
          · rename_i hlt
            cases h
            unfold L2.start
            rw [List.getElem?_append_right (by rw [List.length_map]; omega), List.length_map, hvl, List.getElem?_replicate, if_pos hlt]
            exact ⟨none, rfl, trivial⟩
          · cases h
      · have key : ∀ (i : Nat) (m : M), (slot0 N S)[i]? = some m → m.own = true → i < S.length ∧ S[i]? = some m := fun i m h ho => by
          by_cases hi : i < S.length
          · unfold slot0 at h
            rw [List.getElem?_append_left hi] at h
            exact ⟨hi, h⟩
          · unfold slot0 at h
            rw [List.getElem?_append_right (by omega), List.getElem?_replicate] at h
            split at h
            · cases h; cases ho
            · cases h
        obtain ⟨i1, i2⟩ := key i a ha oa
        obtain ⟨j1, j2⟩ := key j b hb ob
        rw [left i (by omega), left j (by omega)] at e
        exact R0.ap i j a b i2 j2 oa ob e
      · have hi' := hp i hi
        rw [left i (by omega), List.getElem?_map, List.getElem?_eq_getElem (by omega)]
        show some (some _) = some (some _)
        rw [List.getD_eq_getElem?_getD, List.getElem?_eq_getElem (show i < vs.length by omega)]
        rfl
    have back : ∀ (S' : List M) (σ' : L2.St) (H0' H' : Hp), Rs K Pn (fun i => vs.getD i .non) G H0' H' σ' S' → ps.length ≤ S'.length → Rs K [] noV G H0' H' (vs.map some) (outM Pn 0 ps.length S') := fun S' σ' H0' H' R' hl => by
      have at_ : ∀ (i : Nat) (m : M), (outM Pn 0 ps.length S')[i]? = some m → m = .no ∨ (S'[i]? = some m ∧ i ∈ Pn ∧ σ'[i]? = (vs.map some)[i]?) := fun i m h => by
        rcases outM_get Pn 0 ps.length i S' m h with e | ⟨e1, e2⟩
        · exact .inl e
        · rw [Nat.zero_add] at e2
          have hi' := hp i e2
          refine .inr ⟨e1, e2, ?_⟩
          rw [R'.pin i e2, List.getElem?_map, List.getElem?_eq_getElem (show i < vs.length by omega)]
          show some (some _) = some (some _)
          rw [List.getD_eq_getElem?_getD, List.getElem?_eq_getElem (show i < vs.length by omega)]
          rfl
      refine ⟨by rw [List.length_map, outM_len Pn 0 _ _ hl]; omega, R'.e0, R'.eg, fun i m h => ?_, fun i j a b ha hb oa ob e => ?_, fun i hi => by cases hi⟩
      · have hi : i < vs.length := by
          have := (List.getElem?_eq_some_iff.mp h).1
          rw [outM_len Pn 0 _ _ hl] at this
          omega
        rcases at_ i m h with e | ⟨e1, e2, e3⟩
        · subst e
          exact ⟨_, List.getElem?_eq_getElem (by rw [List.length_map]; exact hi), trivial⟩
        · obtain ⟨ov, k1, k2⟩ := R'.sl i m e1
          rw [e3] at k1
          exact ⟨ov, k1, k2⟩
      · rcases at_ i a ha with z | ⟨a1, a2, a3⟩
        · subst z; cases oa
        · rcases at_ j b hb with z | ⟨b1, b2, b3⟩
          · subst z; cases ob
          · exact R'.ap i j a b a1 b1 oa ob (by rw [a3, b3, e])
    refine hst (fun i => vs.getD i .non) G H0 H (L2.start N vs) R1 { nx := fun _ H' => Q .non H', rt := Q } ?_ ?_ ?_ ?_
    · exact fun S' σ' H0' H' ⟨hl, r⟩ g' R' => q .non _ .non H0' H' r g' (back S' σ' H0' H' R' hl) rfl
    · exact fun d S' σ' v H0' H' ⟨hl, r⟩ g' R' p => q d _ v H0' H' r g' (back S' σ' H0' H' R' hl) p
    · exact fun _ _ _ _ z => z.elim
    · exact fun _ _ _ _ z => z.elim
end
end Dl
/-! Defs, methods, classes of a text as they may be called; truth; what the terms of gen.py name. -/
namespace Dl
open PySem L2 Evl PyProof.Rows

/-! ### a def that stands in the text; one that keeps a promise -/
structure FunAt (K : PySem.W.Frag) (mg : PySem.Str → Option Value) (x : PySem.Str) (st : Stmt) (ps : List PySem.Str) : Prop where
  ex : ∃ f fd, mg x = some (.ref f) ∧ Fun K x x st f fd ∧ Binds K fd ps []
structure MethAt (K : PySem.W.Frag) (Ca : Addr) (m qual : PySem.Str) (st : Stmt) (ps : List PySem.Str) : Prop where
  ex : ∃ f fd, Meth K Ca m f ∧ Fun K m qual st f fd ∧ Binds K fd ps []
structure InitAt (K : PySem.W.Frag) (mg : PySem.Str → Option Value) (x : PySem.Str) (Ca : Addr) (m qual : PySem.Str) (st : Stmt) (ps : List PySem.Str) : Prop where
  ex : ∃ f fd, Mk K Ca f ∧ mg x = some (.ref Ca) ∧ Fun K m qual st f fd ∧ Binds K fd ps []
structure Cal (P : Program) (w : World) (K : PySem.W.Frag) (mg : PySem.Str → Option Value) (base : Heap) (x : PySem.Str) (lev : Nat) (ps : List PySem.Str) (sp : Sp) : Prop where
  ex : ∃ f fd, mg x = some (.ref f) ∧ PySem.W.keepIn K (.ref f) = true ∧ Binds K fd ps [] ∧ FnOk P w K mg base CX0 lev f fd ps sp
structure MCal (P : Program) (w : World) (K : PySem.W.Frag) (mg : PySem.Str → Option Value) (base : Heap) (Ca : Addr) (m : PySem.Str) (lev : Nat) (ps : List PySem.Str) (sp : Sp) : Prop where
  ex : ∃ f fd, Meth K Ca m f ∧ Binds K fd ps [] ∧ FnOk P w K mg base CX0 lev f fd ps sp
structure ICal (P : Program) (w : World) (K : PySem.W.Frag) (mg : PySem.Str → Option Value) (base : Heap) (x : PySem.Str) (Ca : Addr) (lev : Nat) (ps : List PySem.Str) (sp : Sp) : Prop where
  ex : ∃ f fd, Mk K Ca f ∧ mg x = some (.ref Ca) ∧ Binds K fd ps [] ∧ FnOk P w K mg base CX0 lev f fd ps sp
section
variable {X : Cx} {x m : PySem.Str} {lev : Nat} {ps : List PySem.Str} {sp : Sp} {Ca : Addr} {e o : Expr} {es : List Expr} {ta : TE} {t : TA} {p apos pos : Pos}
theorem pe_cal (c : Cal X.prog X.w X.K X.mg X.base x lev ps sp) (hr : Room lev X.A) (hg : Gl X x) (ha : PA X (e :: es) t) (hdb : (x == ("__debug__" : Str)) = false := by decide)
    (he : starEach (e :: es) X.env = (false, eval e X.env) :: starEach es X.env := by rfl) (hpl : (backTo pos (starEach es X.env)).any (·.1) = false := by rfl) : PE X (.Call (.Name x p) (e :: es) [] pos) (tCall sp [] E0 t) := by
  obtain ⟨f, fd, h1, h2, h3, h4⟩ := c.ex
  exact pe_call h4 hr hg h1 h2 h3 .nil pass0 ha hdb he hpl
theorem pe_cal0 (c : Cal X.prog X.w X.K X.mg X.base x lev ps sp) (hr : Room lev X.A) (hg : Gl X x) (hdb : (x == ("__debug__" : Str)) = false := by decide) : PE X (.Call (.Name x p) [] [] pos) (tCall sp [] E0 tNil) := by
  obtain ⟨f, fd, h1, h2, h3, h4⟩ := c.ex
  exact pe_call0 h4 hr hg h1 h2 h3 .nil pass0 hdb
theorem pe_ical (c : ICal X.prog X.w X.K X.mg X.base x Ca lev ps sp) (hr : Room (lev + 1) X.A) (hg : Gl X x) (ha : PA X (e :: es) t) (hdb : (x == ("__debug__" : Str)) = false := by decide)
    (he : starEach (e :: es) X.env = (false, eval e X.env) :: starEach es X.env := by rfl) (hpl : (backTo pos (starEach es X.env)).any (·.1) = false := by rfl) : PE X (.Call (.Name x p) (e :: es) [] pos) (tMake Ca sp [] E0 t) := by
  obtain ⟨f, fd, h1, h2, h3, h4⟩ := c.ex
  exact pe_make h1 h4 hr hg h2 h3 .nil pass0 ha hdb he hpl
theorem pe_mcal {pl : Sem Bool} (he : PE X o ta) (cl : Cls X.K Ca) (c : MCal X.prog X.w X.K X.mg X.base Ca m lev ps sp) (hr : Room lev X.A) (ha : PA X (e :: es) t)
    (hst : starEach (e :: es) X.env = (false, eval e X.env) :: starEach es X.env := by rfl) (hpl : (backTo pos (starEach es X.env)).any (·.1) = false := by rfl)
    (ht : eval (.Call (.Attribute o m apos) (e :: es) [] pos) X.env = (do
      let ov ← eval o X.env
      standAt apos.atName
      let (f, first) ← holding [ov] (getMethod ov m pl)
      callWith pos f first (backTo pos (starEach (e :: es) X.env)) (backToKw pos (keywordEach [] X.env))) := by rfl) :
    PE X (.Call (.Attribute o m apos) (e :: es) [] pos) (tMeth Ca m sp [] E0 ta t) := by
  obtain ⟨f, fd, h1, h3, h4⟩ := c.ex
  exact pe_meth he cl h1 h4 hr h3 .nil pass0 ha hst hpl ht
theorem pe_mcal0 {pl : Sem Bool} (he : PE X o ta) (cl : Cls X.K Ca) (c : MCal X.prog X.w X.K X.mg X.base Ca m lev ps sp) (hr : Room lev X.A)
    (ht : eval (.Call (.Attribute o m apos) [] [] pos) X.env = (do
      let ov ← eval o X.env
      standAt apos.atName
      let (f, first) ← holding [ov] (getMethod ov m pl)
      callWith pos f first (backTo pos (starEach [] X.env)) (backToKw pos (keywordEach [] X.env))) := by rfl) :
    PE X (.Call (.Attribute o m apos) [] [] pos) (tMeth Ca m sp [] E0 ta tNil) := by
  obtain ⟨f, fd, h1, h3, h4⟩ := c.ex
  exact pe_meth0 he cl h1 h4 hr h3 .nil pass0 ht
/-- truth of a value -/
def tTr (K : PySem.W.Frag) (ta : TE) : TT := fun σ H Q => ta σ H fun x H' => ∃ k, TruV K x H' k ∧ Q k H'
theorem pt_tr {a : Expr} {ta : TE} (ha : PE X a ta) (he : ∀ whole, isTrue a X.env whole = (do let v ← whole; standAt a.pos; holding [v] (truthy v))) : PT X a (tTr X.K ta) := pt_truth ha he
end
def truD : D → Option Bool
  | .non => some false
  | .bl b => some b
  | .int i => some (i != 0)
  | .lst xs => some (!xs.isEmpty)
  | .tup xs => some (!xs.isEmpty)
  | .dk ks _ => some (!ks.isEmpty)
  | _ => none
section
variable {K : PySem.W.Frag} {S : List M} {te : TE} {d : D} {b : Bool}
theorem isEmpty_len {α β : Type} : ∀ {xs : List α} {ys : List β}, xs.length = ys.length → xs.isEmpty = ys.isEmpty
  | [], [], _ => rfl
  | _ :: _, _ :: _, _ => rfl
  | [], _ :: _, h => by cases h
  | _ :: _, [], h => by cases h
theorem truV_of {H0 H : Hp} {v : V} (h : truD d = some b) (r : Rb K H0 H d v) (e : Ex H0 H) : TruV K v H b := by
  cases d <;> simp only [truD, Option.some.injEq] at h <;> first
    | (cases h; done)
    | skip
  · rw [r.non, ← h]; rfl
  · rw [r.bl, ← h]; rfl
  · rw [r.int, ← h]; rfl
  · obtain ⟨a, vs, rfl, _, h1, h2⟩ := r.tup e
    exact .inr (.inl ⟨vs, st_of h1, by rw [← h, isEmpty_len h2.length]⟩)
  · obtain ⟨a, vs, rfl, h1, h2⟩ := r.lst e
    exact .inl ⟨vs, sq_of h1, by rw [← h, isEmpty_len h2.length]⟩
  · obtain ⟨a, vs, rfl, h1, hl, h2⟩ := r.dk e
    refine .inr (.inr ⟨_, h1, ?_⟩)
    rw [← h]
    congr 1
    exact isEmpty_len (by rw [List.length_zip]; omega)
theorem tpp_tr (h : EvB K te S d) (hb : truD d = some b) : TpP K (tTr K te) S b := fun Pn pl G H0 H σ Rr Q q => h Pn pl G H0 H σ Rr _ fun v H0' H' g e R' p => ⟨b, truV_of hb p R'.e0, q H0' H' g e R'⟩
theorem tpn_tr {R : Bool → List M → Prop} (h : EvN K te S fun d S1 => ∃ b, truD d = some b ∧ R b S1) : TpN K (tTr K te) S R := fun Pn pl G H0 H σ Rr Q q => h Pn pl G H0 H σ Rr _ fun d S' v H0' H' ⟨b, hb, r⟩ g R' p => ⟨b, truV_of hb (.inl p) R'.e0, q b S' H0' H' r g R'⟩
theorem tpp_yes : TpP K tYes S true := fun Pn pl G H0 H σ Rr Q q => q H0 H (Gr.refl _ _) (Ex.refl _) Rr
theorem tpn_yes {R : Bool → List M → Prop} (r : R true S) : TpN K tYes S R := tpp_yes.n r
theorem tpp_chain {r r' : R2} {ta tb tc : TE} {x y z : D} {p q : Bool} (ha : EvB K ta S x) (hb : EvB K tb S y) (h1 : V2P K r x y (.bl p)) (hc : p = true → EvB K tc S z) (h2 : p = true → V2P K r' y z (.bl q)) : TpP K (tTest (tChain r r' ta tb tc)) S (p && q) := tpp_test (evp_chain ha hb h1 hc h2)
end
section
variable {P : Program} {w : World} {K : PySem.W.Frag} {mg : PySem.Str → Option Value} {base : Heap} {x m qual : PySem.Str} {Ca : Addr} {st : Stmt} {N ps : List PySem.Str} {k : Nat} {C : Ct}
abbrev BodyOk (P : Program) (w : World) (K : PySem.W.Frag) (mg : PySem.Str → Option Value) (base : Heap) (qual : PySem.Str) (st : Stmt) (N ps : List PySem.Str) (k : Nat) (C : Ct) : Prop :=
  ∀ (f : Addr) (cdv : Value) (A : Around) (outer : List Env) (s : Shared) (H : Hp) (E : XK), Room k (A.deeper (envOfC qual (defScope st) s.heap.objs.size f cdv)) →
      ∃ t, PSs (cxOf CX0 P w K mg base N qual (defScope st) f cdv A outer s H E).nox (defBody st) t ∧
        ∀ S R, C S R → ∃ Pn : List Nat, (∀ i ∈ Pn, i < ps.length) ∧ (∀ i ∈ Pn, ∀ m, S[i]? = some m → m.own = true) ∧ StN K Pn t (slot0 N S) ⟨fun S' => ps.length ≤ S'.length ∧ R .non (outM Pn 0 ps.length S'), fun d S' => ps.length ≤ S'.length ∧ R d (outM Pn 0 ps.length S'), fun _ => False, fun _ => False⟩
theorem okC (F : FunAt K mg x st ps) (Sc : FnScope N ps (defScope st)) (hlen : ∀ S R, C S R → S.length = ps.length) (hb : BodyOk P w K mg base x st N ps k C) : Cal P w K mg base x (k + 1) ps (spD K C) := by
  obtain ⟨f, fd, h1, h2, h3⟩ := F.ex
  exact ⟨f, fd, h1, h2.kp, h3, okD h2 Sc hlen (hb f)⟩
theorem okM (F : MethAt K Ca m qual st ps) (Sc : FnScope N ps (defScope st)) (hlen : ∀ S R, C S R → S.length = ps.length) (hb : BodyOk P w K mg base qual st N ps k C) : MCal P w K mg base Ca m (k + 1) ps (spD K C) := by
  obtain ⟨f, fd, h1, h2, h3⟩ := F.ex
  exact ⟨f, fd, h1, h3, okD h2 Sc hlen (hb f)⟩
theorem okI (F : InitAt K mg x Ca m qual st ps) (Sc : FnScope N ps (defScope st)) (hlen : ∀ S R, C S R → S.length = ps.length) (hb : BodyOk P w K mg base qual st N ps k C) : ICal P w K mg base x Ca (k + 1) ps (spD K C) := by
  obtain ⟨f, fd, h1, h2, h3, h4⟩ := F.ex
  exact ⟨f, fd, h1, h2, h4, okD h3 Sc hlen (hb f)⟩
theorem Cal.mono {sp : Sp} {j k : Nat} (c : Cal P w K mg base x j ps sp) (h : j ≤ k) : Cal P w K mg base x k ps sp := by
  obtain ⟨f, fd, h1, h2, h3, h4⟩ := c.ex
  exact ⟨f, fd, h1, h2, h3, h4.mono h⟩
theorem MCal.mono {sp : Sp} {j k : Nat} (c : MCal P w K mg base Ca m j ps sp) (h : j ≤ k) : MCal P w K mg base Ca m k ps sp := by
  obtain ⟨f, fd, h1, h2, h3⟩ := c.ex
  exact ⟨f, fd, h1, h2, h3.mono h⟩
theorem hu1_of {A : Around} {k : Nat} (hr : Room k A) : A.units + 1 < cLine := by have := hr.un; omega
theorem hu65_of {A : Around} {k : Nat} (hr : Room k A) : A.units + 65 < cLine := by have := hr.un; omega
theorem hu64_of {A : Around} {k : Nat} (hr : Room k A) : A.units + 64 < cLine := by have := hr.un; omega
end
end Dl
namespace Dl
open PySem L2 Evl PyProof.Rows
/-! ### the rules with the written part named -/
section
variable {X : Cx} {K : PySem.W.Frag} {a b e l tg : Expr} {es : List Expr} {ta tb te tl : TE} {t : TA} {p pos apos tpos : Pos} {f : PySem.Str}
theorem k_sub (hK : X.K = K) (hu : X.A.units + 1 < cLine) (ha : PE X a ta) (hb : PE X b tb) (hs : PlainIx b) (hs2 : NoSl b) : PE X (.Subscript a b pos) (orE (tOp (rIx K) ta tb) (tDGet ta tb)) := by subst hK; exact pe_sub hu ha hb hs hs2
theorem k_in (hK : X.K = K) (hu : X.A.units + 65 < cLine) (ha : PE X a ta) (hb : PE X b tb) (hm : behindInMarks .In b = false) : PE X (.Compare a [.In] [b] pos) (orE (tOp (inU K) ta tb) (tDIn ta tb)) := by subst hK; exact pe_inU hu ha hb hm hm
theorem k_nin (hK : X.K = K) (hu : X.A.units + 65 < cLine) (ha : PE X a ta) (hb : PE X b tb) (hm : behindInMarks .NotIn b = false) : PE X (.Compare a [.NotIn] [b] pos) (orE (tOp (ninU K) ta tb) (tDNotIn ta tb)) := by subst hK; exact pe_ninU hu ha hb hm hm
theorem k_add (hK : X.K = K) (ha : PE X a ta) (hb : PE X b tb) : PE X (.BinOp a .Add b pos) (tOp (addU K) ta tb) := by subst hK; exact pe_op or_addU ha hb
theorem k_eq (hK : X.K = K) (hu : X.A.units + 64 < cLine) (ha : PE X a ta) (hb : PE X b tb) : PE X (.Compare a [.Eq] [b] pos) (tOp (rEqD K) ta tb) := by subst hK; exact pe_cmpR (op_eqD hu) ha hb (nomark _)
theorem k_ne (hK : X.K = K) (hu : X.A.units + 64 < cLine) (ha : PE X a ta) (hb : PE X b tb) : PE X (.Compare a [.NotEq] [b] pos) (tOp (rNeD K) ta tb) := by subst hK; exact pe_cmpR (op_neD hu) ha hb (nomark _)
theorem k_fld (hK : X.K = K) (he : PE X e ta) (hb : attributeBase e f X.env (eval e X.env) = eval e X.env) : PE X (.Attribute e f pos) (tFld K ta f) := by subst hK; exact pe_fld he hb
theorem k_sq (hK : X.K = K) (hl : PE X l tl) : PI X tg l (iSq K tl) := by subst hK; exact pi_sq hl
theorem k_enum (hK : X.K = K) {elts : List Expr} {kk : Nat} (hg : Gl X "enumerate") (hm : X.mg "enumerate" = none) (ha : PA X [e] t) (hs : starEach [e] X.env = [(false, eval e X.env)]) : PI X (.Tuple elts kk tpos) (.Call (.Name "enumerate" p) [e] [] pos) (iEnum K t) := by subst hK; exact pi_enum hg hm ha hs
theorem k_tup (hK : X.K = K) {elts : List Expr} {k n : Nat} {u : TGs} (hc : X.calm = true) (ht : PGs X elts u) (hn : (assignEach elts X.env).length = n) (hst : (assignEach elts X.env).findIdx? (·.1) = none) : PG X (.Tuple elts k pos) (gTup K n u) := by subst hK; exact pg_tup hc ht hn hst
theorem k_slice (hK : X.K = K) {lo hi : Option Expr} {p2 : Pos} {tl th : TO} (he : PE X e te) (hl : PO X lo tl) (hu : PO X hi th) : PE X (.Subscript e (.Slice lo hi none p2) pos) (tSl (slU K) te tl th) := by subst hK; exact pe_slice sr_slU he hl hu
theorem k_tupleOf (hK : X.K = K) (hg : Gl X "tuple") (hm : X.mg "tuple" = none) (ha : PE X a ta) (na : starEach [a] X.env = (false, eval a X.env) :: starEach [] X.env) : PE X (.Call (.Name "tuple" p) [a] [] pos) (tThen ta (kTup K)) := by subst hK; exact pe_tupleOf hg hm ha na
theorem k_tr (hK : X.K = K) (ha : PE X a ta) (he : ∀ whole, isTrue a X.env whole = (do let v ← whole; standAt a.pos; holding [v] (truthy v))) : PT X a (tTr K ta) := by subst hK; exact pt_tr ha he
theorem kr_len (hK : X.K = K) : CallR X (.builtin "len") (lenU K) := by subst hK; exact cr_lenU
theorem kr_sum (hK : X.K = K) (hc : X.calm = true) : CallR X (.builtin "sum") (rSum K) := by subst hK; exact cr_sum hc
theorem kr_min (hK : X.K = K) (hc : X.calm = true) : CallR X (.builtin "min") (rMin K) := by subst hK; exact cr_min hc
theorem kr_max (hK : X.K = K) (hc : X.calm = true) : CallR X (.builtin "max") (rMax K) := by subst hK; exact cr_max hc
theorem kr_any (hK : X.K = K) (hc : X.calm = true) : CallR X (.builtin "any") (rAny K) := by subst hK; exact cr_any hc
theorem kr_all (hK : X.K = K) (hc : X.calm = true) : CallR X (.builtin "all") (rAll K) := by subst hK; exact cr_all hc
theorem kr_isi (hK : X.K = K) : CallR X (.builtin "isinstance") (rIsi K) := by subst hK; exact call_isi
theorem kr_sortI (hK : X.K = K) : CallR X (.builtin "sorted") (rSortedI K) := by subst hK; exact cr_sortedI
theorem kr_list (hK : X.K = K) : CallR X (.type "list") (listSq K) := by subst hK; exact cr_listSq
end
section
variable {X : Cx} {x : PySem.Str} {p pos apos : Pos} {e o : Expr} {es : List Expr} {t : TA} {to ta : TE} {id T name : String} {r : List V → Hp → VK → Prop}
theorem k_callB (hc : CallR X (.builtin id) r) (hg : Gl X x) (hm : X.mg x = none) (hv : bootBuiltins x = some (.builtin id)) (ha : PA X (e :: es) t) (hn : x ≠ "__name__") (hdb : (x == ("__debug__" : PySem.Str)) = false)
    (he : starEach (e :: es) X.env = (false, eval e X.env) :: starEach es X.env) (hpl : (backTo pos (starEach es X.env)).any (·.1) = false) : PE X (.Call (.Name x p) (e :: es) [] pos) (tCB r t) := pe_callB hc hg hm hv ha hn hdb he hpl
theorem k_callTy (hc : CallR X (.type T) r) (hg : Gl X x) (hm : X.mg x = none) (hv : bootBuiltins x = some (.type T)) (ha : PA X (e :: es) t) (hn : x ≠ "__name__") (hdb : (x == ("__debug__" : PySem.Str)) = false)
    (he : starEach (e :: es) X.env = (false, eval e X.env) :: starEach es X.env) (hpl : (backTo pos (starEach es X.env)).any (·.1) = false) : PE X (.Call (.Name x p) (e :: es) [] pos) (tCB r t) := pe_callTy hc hg hm hv ha hn hdb he hpl
end
end Dl
namespace Dl
open PySem L2 Evl PyProof.Rows
section
variable {K : PySem.W.Frag} {S : List M} {vs : List Nat}
theorem ro_rd {m : M} {x : D} (h : m.rd x) : m.ro.rd x := by cases m <;> first | exact h | exact h.elim
/-- a comprehension without a test -/
theorem evf_lcA {α : Type} {xs : List α} {f r : α → D} {wi : TI} {g : TG} {te : TE} (wk : WkB K wi S (xs.map f)) (hl : xs.length ≤ 50000)
    (ht : ∀ a, a ∈ xs → ∃ S2, GtP K g vs ((wipeM S vs).map M.ro) (f a) S2 ∧ EvP K te S2 (r a)) : EvF K (tLc wi g tYes te vs) S (.lst (xs.map r)) := by
  have h := evf_lc (p := fun _ => true) wk hl (tt := tYes) (te := te) (r := r) (g := g) (vs := vs) fun a ha => by
    obtain ⟨S2, h1, h2⟩ := ht a ha
    exact ⟨S2, h1, tpp_yes, fun _ => h2⟩
  rwa [List.filter_eq_self.mpr fun _ _ => rfl] at h
theorem lk_fun (U : List Int) (g : Int → D) {a : Int} (h : a ∈ U) : lkD (U.map fun t => (Sum.inl t : Key)) (U.map g) (Sum.inl a) = some (g a) := by
  induction U with
  | nil => cases h
  | cons u U ih =>
    rw [List.map_cons, List.map_cons]
    by_cases q : u = a
    · subst q; simp [lkD]
    · have q' : ¬ (Sum.inl u : Key) = Sum.inl a := fun z => q (Sum.inl.inj z)
      simp only [lkD, if_neg q']
      exact ih ((List.mem_cons.mp h).resolve_left fun z => q z.symm)
end
end Dl
namespace Dl
open PySem L2 Evl PyProof.Rows
section
variable {K : PySem.W.Frag} {Pn : List Nat} {S : List M} {P : Post} {te ta tb : TE} {tt : TT} {t u : TS} {i : Nat} {x d : D}
theorem st_setP (hi : i ∉ Pn) (h : EvP K te S d) (k : P.nx (S.set i (.d d))) : StN K Pn (tAsg te (gName i)) S P := st_set hi (h.n k)
theorem st_setF (hi : i ∉ Pn) (h : EvF K te S d) (k : P.nx (S.set i (.o d))) : StN K Pn (tAsg te (gName i)) S P := st_seto hi (h.o k)
theorem st_ifP {b : Bool} (h : TpP K tt S b) (h1 : b = true → StN K Pn t S P) (h2 : b = false → StN K Pn u S P) : StN K Pn (tIfS tt t u) S P := st_if (h.n ⟨h1, h2⟩)
theorem st_retP (h : EvP K te S d) (k : P.rt d S) : StN K Pn (tRet te) S P := st_ret (h.n k)
theorem evp_dini {i : Int} {ks : List Key} {xs : List D} (ha : EvB K ta S (.int i)) (hb : EvB K tb S (.dk ks xs)) : EvP K (orE (tOp (inU K) ta tb) (tDIn ta tb)) S (.bl (lkD ks xs (Sum.inl i)).isSome) := evp_din (k := Sum.inl i) ha hb
def addKey (met : List Int) (t : Int) : List Int := if t ∈ met then met else met ++ [t]
theorem mem_addKey {met : List Int} {t x : Int} : x ∈ addKey met t ↔ x ∈ met ∨ x = t := by
  unfold addKey
  split
  · exact ⟨fun h => .inl h, fun h => h.elim id fun e => by rw [e]; assumption⟩
  · simp
theorem nd_addKey {met : List Int} {t : Int} (h : met.Nodup) : (addKey met t).Nodup := by
  unfold addKey
  split
  · exact h
  · rename_i q
    rw [List.nodup_append]
    exact ⟨h, by simp, fun a ha b hb e => by rw [List.mem_singleton] at hb; subst e; rw [hb] at ha; exact q ha⟩
abbrev kI (ns : List Int) : List Key := ns.map fun t => Sum.inl t
theorem pAny_kI (ns : List Int) (t : Int) : pAny (kI ns) (Sum.inl t : Key) = decide (t ∈ ns) := by
  induction ns with
  | nil => rfl
  | cons n ns ih =>
    unfold pAny at *
    rw [show kI (n :: ns) = Sum.inl n :: kI ns from rfl, List.any_cons, ih]
    by_cases q : n = t
    · subst q; simp
    · have q' : ¬ (Sum.inl n : Key) = Sum.inl t := fun z => q (Sum.inl.inj z)
      rw [decide_eq_false q', Bool.false_or]
      exact decide_eq_decide.mpr ⟨fun h => List.mem_cons_of_mem _ h, fun h => (List.mem_cons.mp h).elim (fun z => absurd z.symm q) id⟩
theorem pK_kI (ns : List Int) (t : Int) : pK (kI ns) (Sum.inl t : Key) = kI (addKey ns t) := by
  unfold pK addKey
  rw [pAny_kI]
  by_cases q : t ∈ ns
  · rw [if_pos (decide_eq_true q), if_pos q]
  · rw [if_neg (by rw [decide_eq_false q]; exact Bool.false_ne_true), if_neg q]
    simp
theorem pX_kI (ns : List Int) (t : Int) (c : D) : pX (kI ns) (ns.map fun _ => c) (Sum.inl t : Key) c = (addKey ns t).map fun _ => c := by
  unfold pX addKey
  rw [pAny_kI]
  by_cases q : t ∈ ns
  · rw [if_pos (decide_eq_true q), if_pos q]
    clear q
    induction ns with
    | nil => rfl
    | cons n ns ih =>
      rw [show kI (n :: ns) = Sum.inl n :: kI ns from rfl, List.map_cons, List.zipWith_cons_cons, ih, ite_self]
  · rw [if_neg (by rw [decide_eq_false q]; exact Bool.false_ne_true), if_neg q]
    simp
theorem lk_kI (ns : List Int) (t : Int) (c : D) : (lkD (kI ns) (ns.map fun _ => c) (Sum.inl t : Key)).isSome = decide (t ∈ ns) := by
  induction ns with
  | nil => rfl
  | cons n ns ih =>
    rw [show kI (n :: ns) = Sum.inl n :: kI ns from rfl, List.map_cons]
    by_cases q : n = t
    · subst q; simp [lkD]
    · have q' : ¬ (Sum.inl n : Key) = Sum.inl t := fun z => q (Sum.inl.inj z)
      simp only [lkD, if_neg q', ih]
      exact decide_eq_decide.mpr ⟨fun h => List.mem_cons_of_mem _ h, fun h => (List.mem_cons.mp h).elim (fun z => absurd z.symm q) id⟩
end
end Dl
namespace Dl
open PySem L2 Evl PyProof.Rows
section
variable {X : Cx} {K : PySem.W.Frag} {a b : Expr} {ta tb : TE} {pos : Pos}
theorem pt_orE {e : Expr} {t t' : TE} (h : PT X e (tTest t)) (h' : PT X e (tTest t')) : PT X e (tTest (orE t t')) := ⟨fun pins s σ H Q I q => Or.elim (show _ ∨ _ from q) (fun q => h.run pins s σ H Q I q) fun q => h'.run pins s σ H Q I q⟩
theorem kt_in (hK : X.K = K) (hu : X.A.units + 65 < cLine) (ha : PE X a ta) (hb : PE X b tb) (hm : behindInMarks .In b = false) : PT X (.Compare a [.In] [b] pos) (tTest (orE (tOp (inU K) ta tb) (tDIn ta tb))) := by subst hK; exact pt_orE (pt_cmpR (or_inU hu) ha hb hm) (pt_cmp (pc_din (by omega) ha hb) hm)
theorem kt_nin (hK : X.K = K) (hu : X.A.units + 65 < cLine) (ha : PE X a ta) (hb : PE X b tb) (hm : behindInMarks .NotIn b = false) : PT X (.Compare a [.NotIn] [b] pos) (tTest (orE (tOp (ninU K) ta tb) (tDNotIn ta tb))) := by subst hK; exact pt_orE (pt_cmpR (or_ninU hu) ha hb hm) (pt_cmp (pc_dnotin (by omega) ha hb) hm)
theorem kt_eq (hK : X.K = K) (hu : X.A.units + 64 < cLine) (ha : PE X a ta) (hb : PE X b tb) : PT X (.Compare a [.Eq] [b] pos) (tTest (tOp (rEqD K) ta tb)) := by subst hK; exact pt_cmpR (op_eqD hu) ha hb (nomark _)
theorem kt_ne (hK : X.K = K) (hu : X.A.units + 64 < cLine) (ha : PE X a ta) (hb : PE X b tb) : PT X (.Compare a [.NotEq] [b] pos) (tTest (tOp (rNeD K) ta tb)) := by subst hK; exact pt_cmpR (op_neD hu) ha hb (nomark _)
end
end Dl
namespace Dl
/-! ### plain sorts -/
def isort (ns : List Int) : List Int := ns.mergeSort fun a b => decide (a ≤ b)
theorem isort_perm (ns : List Int) : List.Perm (isort ns) ns := List.mergeSort_perm _ _
theorem isort_srt (ns : List Int) : (isort ns).Pairwise (· ≤ ·) := by
  have h := List.pairwise_mergeSort (le := fun a b : Int => decide (a ≤ b)) (fun a b c h1 h2 => decide_eq_true (Int.le_trans (of_decide_eq_true h1) (of_decide_eq_true h2)))
    (fun a b => by rcases Int.le_total a b with h | h <;> simp [h]) ns
  exact h.imp fun h => of_decide_eq_true h
theorem isort_uniq {a b : List Int} (p : List.Perm a b) (h : a.Pairwise (· ≤ ·)) : a = isort b :=
  List.Perm.eq_of_pairwise (le := fun x y : Int => x ≤ y) (fun x y _ _ h1 h2 => Int.le_antisymm h1 h2) h (isort_srt b) (p.trans (isort_perm b).symm)
theorem isort_mem {ns : List Int} {t : Int} : t ∈ isort ns ↔ t ∈ ns := (isort_perm ns).mem_iff
theorem isort_eq {a b : List Int} (p : List.Perm a b) : isort a = isort b := isort_uniq ((isort_perm a).trans p) (isort_srt a)
def plt (p q : Int × Int) : Prop := p.1 < q.1 ∨ (p.1 = q.1 ∧ p.2 < q.2)
instance (p q : Int × Int) : Decidable (plt p q) := inferInstanceAs (Decidable (_ ∨ _))
def psort (ps : List (Int × Int)) : List (Int × Int) := ps.mergeSort fun a b => decide (¬ plt b a)
theorem psort_perm (ps : List (Int × Int)) : List.Perm (psort ps) ps := List.mergeSort_perm _ _
theorem psort_srt (ps : List (Int × Int)) : (psort ps).Pairwise fun a b => ¬ plt b a := by
  have h := List.pairwise_mergeSort (le := fun a b : Int × Int => decide (¬ plt b a)) (fun a b c h1 h2 => decide_eq_true (by
      have h1 := of_decide_eq_true h1
      have h2 := of_decide_eq_true h2
      unfold plt at *
      omega))
    (fun a b => by
      by_cases h : plt b a
      · have : ¬ plt a b := by unfold plt at *; omega
        simp [this]
      · simp [h]) ps
  exact h.imp fun h => of_decide_eq_true h
theorem psort_uniq {a b : List (Int × Int)} (p : List.Perm a b) (h : a.Pairwise fun x y => ¬ plt y x) : a = psort b :=
  List.Perm.eq_of_pairwise (le := fun x y : Int × Int => ¬ plt y x) (fun x y _ _ h1 h2 => by
    unfold plt at *
    exact Prod.ext (by omega) (by omega)) h (psort_srt b) (p.trans (psort_perm b).symm)
end Dl
/-! sorted of ints, of pairs of ints, of set(tuple of ints); reversed slices of tuples. -/
namespace Dl
open PySem L2 Evl PyProof.Rows
abbrev pairD (p : Int × Int) : D := .tup [.int p.1, .int p.2]
/-! ### sorted -/
section
variable {K : PySem.W.Frag} {x : D} {S : List M} {te ta : TE}
theorem V1F_layA {r : V → Hp → VK → Prop} {ds : List D} (h : ∀ H0 H v, Ex H0 H → Rb K H0 H x v → ∀ Q : VK, (∀ vs p, Rps K H0 ds vs → H p = none → Q (.ref p) (upd H p (.lst vs))) → r v H Q) : V1F K r x (.lst ds) := fun Pn pl G H0 H σ S v Rr hv Q q => by
  refine h H0 H v Rr.e0 hv Q fun vs p h1 hp => ?_
  obtain ⟨R2, a, b, c, e2⟩ := Rr.new_own (o := .lst vs) hp
  exact q p H0 _ (Gr.refl _ _) e2 R2 a b c ⟨vs, upd_same, h1⟩
theorem rps_ints (H : Hp) : ∀ ns : List Int, Rps K H (ns.map D.int) (ns.map V.int)
  | [] => rfl
  | n :: ns => ⟨_, _, rfl, rfl, rps_ints H ns⟩
theorem v_sortI {ns : List Int} : V1F K (r1 (rSortedI K)) (.lst (ns.map D.int)) (.lst ((isort ns).map D.int)) := V1F_layA fun H0 H v e hv Q q => by
  obtain ⟨a, vs, rfl, h1, h2⟩ := hv.lst e
  have h3 := h2.ints
  subst h3
  exact ⟨a, ns, rfl, sq_of h1, fun ns' p k1 k2 hp => q _ p (by rw [isort_uniq k1 k2]; exact rps_ints _ _) hp⟩
def pairAt (H : Hp) : V → Int × Int
  | .ref t => match H t with
    | some (.tup [.int i, .int j]) => (i, j)
    | _ => (0, 0)
  | _ => (0, 0)
theorem rps_pairs {H : Hp} : ∀ {ps : List (Int × Int)} {vs : List V}, Rps K H (ps.map pairD) vs → vs.map (pairAt H) = ps ∧ ∀ v ∈ vs, ∃ t, v = V.ref t ∧ H t = some (.tup [.int (pairAt H v).1, .int (pairAt H v).2])
  | [], vs, h => by
    unfold List.map Rps at h
    subst h
    exact ⟨rfl, fun v hv => by cases hv⟩
  | p :: ps, vs, h => by
    obtain ⟨v, r, rfl, h2, h3⟩ := (show ∃ v r, vs = v :: r ∧ Rp K H (pairD p) v ∧ Rps K H (ps.map pairD) r by unfold List.map Rps at h; exact h)
    obtain ⟨k1, k2⟩ := rps_pairs h3
    obtain ⟨a, ws, rfl, q1, q2⟩ := (show ∃ a ws, v = V.ref a ∧ H a = some (.tup ws) ∧ Rps K H [.int p.1, .int p.2] ws by unfold Rp at h2; exact h2)
    have q3 : ws = [V.int p.1, V.int p.2] := Rps.ints (ns := [p.1, p.2]) q2
    subst q3
    have e : pairAt H (.ref a) = p := by simp only [pairAt, q1]
    refine ⟨by rw [List.map_cons, e, k1], fun v hv => ?_⟩
    rcases List.mem_cons.mp hv with z | z
    · subst z; exact ⟨a, rfl, by rw [e]; exact q1⟩
    · exact k2 v z
theorem rps_of_pairs {H : Hp} : ∀ (vs : List V), (∀ v ∈ vs, ∃ t, v = V.ref t ∧ H t = some (.tup [.int (pairAt H v).1, .int (pairAt H v).2])) → Rps K H ((vs.map (pairAt H)).map pairD) vs
  | [], _ => rfl
  | v :: vs, h => by
    obtain ⟨t, e, k⟩ := h v (by simp)
    refine ⟨v, vs, rfl, ?_, rps_of_pairs vs fun w hw => h w (List.mem_cons_of_mem _ hw)⟩
    show Rp K H (pairD (pairAt H v)) v
    unfold pairD Rp
    exact ⟨t, _, e, k, ⟨_, _, rfl, rfl, _, _, rfl, rfl, rfl⟩⟩
theorem v_sortP {ps : List (Int × Int)} : V1F K (r1 (rSortedPO K)) (.lst (ps.map pairD)) (.lst ((psort ps).map pairD)) := V1F_layA fun H0 H v e hv Q q => by
  obtain ⟨a, vs, rfl, h1, h2⟩ := hv.lst e
  obtain ⟨k1, k2⟩ := rps_pairs h2
  refine ⟨a, vs, pairAt H0, rfl, sq_of h1, fun x hx => ?_, fun ys p j1 j2 hp => ?_⟩
  · obtain ⟨t, e1, e2⟩ := k2 x hx
    exact ⟨t, e1, e _ _ e2⟩
  · have pm : List.Perm ys vs := j2.perm
    have k3 : ys.map (pairAt H0) = psort ps := by
      refine psort_uniq (by rw [← k1]; exact pm.map _) (List.pairwise_map.mpr (j1.imp fun {a b} h => ?_))
      have := SrtO.lexB_no.mp h
      unfold plt
      omega
    refine q ys p ?_ hp
    rw [← k3]
    exact rps_of_pairs ys fun v hv => k2 v (pm.mem_iff.mp hv)
theorem v_sortPm {α : Type} {xs : List α} {f g : α → Int} : V1F K (r1 (rSortedPO K)) (.lst (xs.map fun a => .tup [.int (f a), .int (g a)])) (.lst ((psort (xs.map fun a => (f a, g a))).map pairD)) := by
  have h := v_sortP (K := K) (ps := xs.map fun a => (f a, g a))
  rw [List.map_map] at h
  exact h
end
section
variable {K : PySem.W.Frag} {S : List M} {tl : TE} {ds : List D}
theorem Rb.tupP {H0 H : Hp} {v : V} (h : Rb K H0 H (.tup ds) v) : Rp K H0 (.tup ds) v := h.elim id fun ⟨_, _, z⟩ => z.elim
theorem EvB.tup (h : EvB K tl S (.tup ds)) : EvP K tl S (.tup ds) := fun Pn pl G H0 H σ Rr Q q => h Pn pl G H0 H σ Rr Q fun v H0' H' g e R' p => q v H0' H' g e R' (Rb.tupP p)
theorem wkp_tupb (h : EvB K tl S (.tup ds)) : WkP K (iSq K tl) S ds := wkp_tup h.tup
end
theorem GtP.weak {K : PySem.W.Frag} {g : TG} {us vs : List Nat} {S S2 : List M} {x : D} (h : GtP K g us S x S2) (sub : ∀ i ∈ us, i ∈ vs) : GtP K g vs S x S2 :=
  ⟨fun i hi => h.out i fun z => hi (sub i z), h.len, fun Pn pl G H0 H σ v hv R p Q q => h.run Pn pl G H0 H σ v (fun i hi => hv i (sub i hi)) R p Q fun σ2 R2 k => q σ2 R2 fun i hi => k i fun z => hi (sub i z)⟩
theorem noown_set {S : List M} {j : Nat} {x : D} (h : ∀ (i : Nat) (m : M), S[i]? = some m → m.own = false) : ∀ (i : Nat) (m : M), (S.set j (.d x))[i]? = some m → m.own = false := fun i m e => by
  by_cases q : j = i
  · subst q
    by_cases l : j < S.length
    · rw [List.getElem?_set_self l] at e; cases e; rfl
    · rw [List.getElem?_eq_none (by rw [List.length_set]; omega)] at e; cases e
  · rw [List.getElem?_set_ne q] at e; exact h i m e
theorem evp_dgeti2 {K : PySem.W.Frag} {S : List M} {ta tb tx : TE} {i : Int} {ks : List Key} {xs : List D} {z d : D} (ha : EvB K ta S (.dk ks xs)) (hb : EvB K tb S (.int i)) (hx : EvP K tx S z) (h : lkD ks xs (.inl i) = some d) : EvP K (tDGet2 ta tb tx) S d := by
  have := evp_dget2 (k := .inl i) ha hb hx
  rw [h] at this
  exact this
theorem v_eqb {K : PySem.W.Frag} {x y : D} {b : Bool} (px : x.isPy = true) (py : y.isPy = true) (sx : SeqAt.shaped x.py = true) (sy : SeqAt.shaped y.py = true) (e : PyData.eqv x.py y.py = b) : V2P K (rEqD K) x y (.bl b) := e ▸ v_eq px py sx sy
theorem v_neb {K : PySem.W.Frag} {x y : D} {b : Bool} (px : x.isPy = true) (py : y.isPy = true) (sx : SeqAt.shaped x.py = true) (sy : SeqAt.shaped y.py = true) (e : (!PyData.eqv x.py y.py) = b) : V2P K (rNeD K) x y (.bl b) := e ▸ v_ne px py sx sy
theorem rdB_o {x : D} : (M.o x).rdB = true := rfl
theorem rdB_b {x : D} : (M.b x).rdB = true := rfl
theorem rdB_d {x : D} : (M.d x).rdB = true := rfl
theorem EvB.int {K : PySem.W.Frag} {S : List M} {te : TE} {i : Int} (h : EvB K te S (.int i)) : EvP K te S (.int i) := fun Pn pl G H0 H σ Rr Q q => h Pn pl G H0 H σ Rr Q fun v H0' H' g e R' p => q v H0' H' g e R' p.int
theorem pe_globI {X : Cx} {x : PySem.Str} {i : Int} {pos : Pos} (hg : Gl X x) (h : ∃ t, X.mg x = some (.int i t)) (hd : (x == ("__debug__" : PySem.Str)) = false := by decide) : PE X (.Name x pos) (tC (.int i)) := by
  obtain ⟨t, e⟩ := h
  exact pe_glob hg e ⟨t, rfl⟩ hd
/-! ### set(tuple of ints) -/
section
variable {X : Cx}
def rSetTI (K : PySem.W.Frag) (w : World) : List V → Hp → VK → Prop := fun xs H Q => ∃ (l : Addr) (ns : List Int), xs = [V.ref l] ∧ SqT K H l (ns.map V.int) ∧ ns.length ≤ 1000 ∧
  ∀ (a : Addr) (c : Nat), H a = none → c ≤ ns.length → Q (.ref a) (upd H a (SetO w a (fun j => decide (j ∈ ns)) c))
theorem cr_setTI (hc : X.calm = true) : CallR X (.type "set") (rSetTI X.K X.w) := by
  intro pins s σ H xs us Q I r h
  obtain ⟨l, ns, rfl, hl, hn, q⟩ := h
  rw [Vals.ref1 r]
  obtain ⟨its, rv, ht, hz⟩ := I.tuple hl
  have hi := ints_of_vals rv
  have hn1 : H s.heap.objs.size = none := I.hok.fresh (Nat.le_refl _)
  refine call_set_tupI (P := X.prog) (w := X.w) ns (I.ok.hd hc) ht hi (by unfold scanBound; omega) fun h' tk c R hcl k => ?_
  exact ⟨.ref s.heap.objs.size, upd H s.heap.objs.size (SetO X.w s.heap.objs.size (fun j => decide (j ∈ ns)) c), I.laid (t' := tk) k (Nat.le_refl _) (setO_new R), rfl, q _ c hn1 hcl⟩
end
/-- two strictly sorted lists of the same members -/
theorem ssu : ∀ {a b : List Int}, a.Pairwise (· < ·) → b.Pairwise (· < ·) → (∀ k, k ∈ a ↔ k ∈ b) → a = b
  | [], [], _, _, _ => rfl
  | [], y :: b, _, _, h => by have := (h y).mpr (by simp); cases this
  | x :: a, [], _, _, h => by have := (h x).mp (by simp); cases this
  | x :: a, y :: b, ha, hb, h => by
    obtain ⟨a1, a2⟩ := List.pairwise_cons.mp ha
    obtain ⟨b1, b2⟩ := List.pairwise_cons.mp hb
    have e : x = y := by
      rcases List.mem_cons.mp ((h x).mp (by simp)) with z | z
      · exact z
      · rcases List.mem_cons.mp ((h y).mpr (by simp)) with u | u
        · exact u.symm
        · have := b1 x z; have := a1 y u; omega
    subst e
    rw [ssu a2 b2 fun k => ⟨fun z => ?_, fun z => ?_⟩]
    · rcases List.mem_cons.mp ((h k).mp (List.mem_cons_of_mem _ z)) with u | u
      · have := a1 k z; omega
      · exact u
    · rcases List.mem_cons.mp ((h k).mpr (List.mem_cons_of_mem _ z)) with u | u
      · have := b1 k z; omega
      · exact u
section
variable {K : PySem.W.Frag} {S : List M} {ta : TE} {w : World}
/-- sorted(set(t)), t a tuple of ints -/
theorem evf_sortset {ns l : List Int} (ha : EvB K ta S (.tup (ns.map D.int))) (hn : ns.length < 64) (hl : l.Pairwise (· < ·)) (hm : ∀ k, k ∈ l ↔ k ∈ ns) :
    EvF K (tCB (rSortedSet w) (tCons (tCB (rSetTI K w) (tCons ta tNil)) tNil)) S (.lst (l.map D.int)) := fun Pn pl G H0 H σ Rr Q q =>
  ha Pn pl G H0 H σ Rr _ fun v H01 H1 g1 e1 R1 p1 => by
    obtain ⟨a, vs, rfl, h0, h1, h2⟩ := p1.tup R1.e0
    have h3 := h2.ints
    subst h3
    refine ⟨a, ns, rfl, st_of h1, by omega, fun b c hb hc => ?_⟩
    obtain ⟨R2, _, _, _, e2⟩ := R1.new_own (o := SetO w b (fun j => decide (j ∈ ns)) c) hb
    refine ⟨b, _, c, rfl, upd_same, by omega, fun ms p k1 k2 k3 hp => ?_⟩
    obtain ⟨R3, a1, b1, c1, e3⟩ := R2.new_own (o := .lst (ms.map V.int)) hp
    have e4 : ms = l := ssu k1 hl fun k => by rw [k2 k, hm k, decide_eq_true_iff]
    exact q p H01 _ g1 ((e1.trans e2).trans e3) R3 a1 b1 c1 ⟨_, upd_same, by rw [← e4]; exact rps_ints _ _⟩
theorem kr_setT {X : Cx} (hK : X.K = K) (hw : X.w = w) (hc : X.calm = true) : CallR X (.type "set") (rSetTI K w) := by subst hK; subst hw; exact cr_setTI hc
theorem kr_sortSet {X : Cx} (hw : X.w = w) (hc : X.calm = true) : CallR X (.builtin "sorted") (rSortedSet w) := by subst hw; exact cr_sortedSet hc
theorem kr_sortP {X : Cx} (hK : X.K = K) : CallR X (.builtin "sorted") (rSortedPO K) := by subst hK; exact cr_sortedPO
end
end Dl
/-! C(..).f(..): a method of an object that is new. -/
namespace Dl
open PySem L2 Evl PyProof.Rows
section
variable {K : PySem.W.Frag} {Pn : List Nat} {pl : Nat → V} {G H0 H H1 H2 : Hp} {σ : L2.St} {S : List M} {C : Ct} {R : D → List M → Prop}
theorem putBack_d : ∀ (ds : List D) (So S : List M), putBack (ds.map Ar.d) So S = S
  | [], So, S => by cases So <;> rfl
  | d :: ds, [], S => rfl
  | d :: ds, m :: So, S => by show putBack (ds.map Ar.d) So S = S; exact putBack_d ds So S
theorem slots_d : ∀ ds : List D, slots (ds.map Ar.d) = []
  | [] => rfl
  | d :: ds => by
    have := slots_d ds
    unfold slots at *
    rw [List.map_cons, List.filterMap_cons]
    exact this
theorem arels_d : ∀ {ds : List D} {vs : List V}, Rps K H0 ds vs → Arels K H0 σ (ds.map Ar.d) vs
  | [], vs, h => by
    have e : vs = [] := by unfold Rps at h; exact h
    subst e; exact .nil
  | d :: ds, vs, h => by
    obtain ⟨v, r, rfl, h1, h2⟩ := (show ∃ v r, vs = v :: r ∧ Rp K H0 d v ∧ Rps K H0 ds r by unfold Rps at h; exact h)
    exact .cons (show Arel K H0 σ (.d d) v from h1) (arels_d h2)
theorem evn_methf {Ca : Addr} {f : PySem.Str} {to : TE} {ta : TA} {E : XK} (h0 : EvO K to S fun x S1 => ∃ ns xs ds, x = .ins Ca ns xs ∧ f ∉ ns ∧ ApP K ta S1 ds ∧ C (.o x :: ds.map M.d) fun d So => ∃ y So', So = .o y :: So' ∧ R d S1) :
    EvN K (tMeth Ca f (spD K C) [] E to ta) S R := fun Pn pl G H0 H σ Rr Q q => h0 Pn pl G H0 H σ Rr _ fun x S1 p H01 H1 ⟨ns, xs, ds, ex, hf, ha, hc⟩ g1 R1 n0 ng ap o => by
  subst ex
  have o' := o
  obtain ⟨dx, vs, k1, k2, k3⟩ := o'
  have RG := R1.addG ng k1 ap
  refine ⟨p, dx, _, rfl, k1, lookup_no hf, ha Pn pl _ H01 H1 σ RG _ fun us H02 H2 g2 e2 R2 p2 => ?_⟩
  rw [List.append_nil]
  have n0' : H02 p = none := g2.out (by rw [upd_same]; exact fun z => nomatch z) n0
  have R3 : Rs K Pn pl G H02 H2 σ S1 := R1.fwd g2.ex e2 R2.e0 fun i m l hi ho hs hl0 hl => by
    obtain ⟨ov, q1, q2⟩ := R2.sl i m hi
    obtain ⟨l', e1, e2, e3, e4⟩ := q2.addr ho
    rw [hs] at q1
    cases q1
    cases e1
    exact e2
  have o3 : Ro K H02 H2 (.ins Ca ns xs) p := (o.mono0 g2.ex).mono e2
  have R4 := R3.push n0' ng ap o3
  have ok2 : arChk (S1 ++ [.o (.ins Ca ns xs)]) (.s S1.length :: ds.map Ar.d) = true := by
    unfold arChk
    have es : slots (.s S1.length :: ds.map Ar.d) = [S1.length] := by
      show S1.length :: slots (ds.map Ar.d) = _
      rw [slots_d]
    rw [es, Bool.and_eq_true, List.all_eq_true]
    refine ⟨fun a ha' => ?_, rfl⟩
    rcases List.mem_cons.mp ha' with e | ha'
    · subst e
      simp only [arOne, List.getElem?_append_right (Nat.le_refl _), Nat.sub_self]
      rfl
    · obtain ⟨d, _, rfl⟩ := List.mem_map.mp ha'
      rfl
  have hA : Arels K H02 (σ ++ [some (.ref p)]) (.s S1.length :: ds.map Ar.d) (.ref p :: us) := by
    refine .cons ?_ (arels_d p2)
    show (σ ++ [some (V.ref p)])[S1.length]? = _
    rw [← R1.len, List.getElem?_append_right (Nat.le_refl _), Nat.sub_self]; rfl
  have eA : (Ar.s S1.length :: ds.map Ar.d).map (arM (S1 ++ [.o (.ins Ca ns xs)])) = .o (.ins Ca ns xs) :: ds.map M.d := by
    rw [List.map_cons, List.map_map]
    simp only [arM, List.getElem?_append_right (Nat.le_refl _), Nat.sub_self]
    rfl
  refine call_core0 R4 hA ok2 (eA ▸ hc) fun d So v H0' H' ⟨y, So', eS, r⟩ g R' pv => ?_
  subst eS
  have eB : putBack (Ar.s S1.length :: ds.map Ar.d) (.o y :: So') (S1 ++ [.o (.ins Ca ns xs)]) = S1 ++ [.o y] := by
    show putBack (ds.map Ar.d) So' ((S1 ++ [M.o (.ins Ca ns xs)]).set S1.length (M.o y)) = _
    rw [List.set_append_right _ _ (Nat.le_refl _), Nat.sub_self, putBack_d]
    rfl
  rw [eB] at R'
  obtain ⟨R5, l, e1, e2, e3, e4, e5⟩ := R'.pop R1.pin
  refine q d S1 v H0' H' r ((g1.trans (g2.sub fun a ha => ?_)).trans g) R5 pv
  by_cases z : a = p
  · rw [z, upd_same]; exact fun z => nomatch z
  · rw [upd_ne z]; exact ha
end
end Dl
/-! The pool of drawn numbers; what is known of an own object, closed. -/
namespace Dl
open PySem L2 Evl PyProof.Rows
section
variable {K : PySem.W.Frag} {Pn : List Nat} {S : List M} {P : Post} {te : TE} {t : TS} {R : D → List M → Prop} {i : Nat} {x : D} {φ : D → Prop}
theorem evn_close (h : EvN K te S fun d S1 => ∃ x, S1[i]? = some (.o x) ∧ φ x ∧ R d (S1.set i (.e φ))) : EvN K te S R := fun Pn pl G H0 H σ Rr Q q => h Pn pl G H0 H σ Rr Q fun d S1 v H0' H' ⟨x, hx, px, r⟩ g R1 p => q d _ v H0' H' r g (R1.close hx px) p
theorem st_close (hs : S[i]? = some (.o x)) (hx : φ x) (h : StN K Pn t (S.set i (.e φ)) P) : StN K Pn t S P := fun pl G H0 H σ R => h pl G H0 H σ (R.close hs hx)
theorem v_mulR {i j : Int} (h1 : -(2 ^ 64) < j) (h2 : j < 2 ^ 64) : V2P K mulI (.int i) (.int j) (.int (i * j)) := v_mul (.inr ⟨h1, h2⟩)
theorem v_powR {i j : Int} (h1 : 0 ≤ j) (h2 : j ≤ 1000000) (h3 : i.natAbs < 2 ^ 64) : V2P K powI (.int i) (.int j) (.int (i ^ j.toNat)) := v_pow ⟨h1, h2, h3⟩
theorem v_fdvR {i j : Int} (h1 : j ≠ 0) (h2 : j.natAbs < 1073741824) : V2P K fdvI (.int i) (.int j) (.int (i.fdiv j)) := v_fdv ⟨h1, h2⟩
/-- the pool -/
def PoolD (x : D) : Prop := ∃ (ns : List Int) (a1 a2 a3 a4 : Int), x = .lst [.lst (ns.map D.int), .int a1, .int a2, .int a3, .int a4, .int 0] ∧ 0 ≤ a1
def spPool (K : PySem.W.Frag) : Sp := fun vs H Q _ => ∃ (a : Addr) (ns : List Int), vs = [.ref a, .int 0] ∧ SqL K H a (ns.map V.int) ∧
  ∀ l p, H l = none → l ≠ p → H p = none → Q (.ref p) (upd (upd H l (.lst (ns.map V.int))) p (.lst [.ref l, .int 0, .int 0, .int 1, .int 0, .int 0]))
theorem evo_pool {E : XK} {ns : List Int} {R : D → List M → Prop} (h0 : S[i]? = some (.q ns)) (r : R (.lst [.lst (ns.map D.int), .int 0, .int 0, .int 1, .int 0, .int 0]) S) :
    EvO K (tCall (spPool K) [] E (tCons (tVar i) (tCons (tC (.int 0)) tNil))) S R := fun Pn pl G H0 H σ Rr Q q => by
  obtain ⟨ov, h1, a, rfl, h2⟩ := Rr.sl i _ h0
  refine ⟨_, h1, a, ns, rfl, ex_l Rr.eg h2, fun l p hl ne hp => ?_⟩
  obtain ⟨g1, e1, R1⟩ := Rr.lay (o := .lst (ns.map V.int)) hl
  have hp1 : upd H l (.lst (ns.map V.int)) p = none := by rw [upd_ne ne.symm]; exact hp
  obtain ⟨R2, n0, ng, ap, e2⟩ := R1.new_own (o := .lst [.ref l, .int 0, .int 0, .int 1, .int 0, .int 0]) hp1
  refine q _ S p _ _ r g1 R2 n0 ng ap ⟨_, upd_same, ?_⟩
  refine ⟨_, _, rfl, ⟨l, _, rfl, upd_same, rps_ints _ _⟩, _, _, rfl, rfl, _, _, rfl, rfl, _, _, rfl, rfl, _, _, rfl, rfl, _, _, rfl, rfl, rfl⟩
end
section
variable {P : Program} {w : World} {K : PySem.W.Frag} {mg : PySem.Str → Option Value} {base : Heap}
/-- a def whose promise is told raw -/
theorem okR {x : PySem.Str} {st : Stmt} {N ps : List PySem.Str} {k : Nat} {sp : Sp} (F : FunAt K mg x st ps) (Sc : FnScope N ps (defScope st)) (len : ∀ vs H Q E, sp vs H Q E → vs.length = ps.length)
    (hbody : ∀ (f : Addr) (cdv : Value) (A : Around) (outer : List Env) (s : Shared) (H : Hp) (vs : List V) (Q : VK) (E : XK), Room k (A.deeper (envOfC x (defScope st) s.heap.objs.size f cdv)) → sp vs H Q E →
      ∃ t, PSs (cxOf CX0 P w K mg base N x (defScope st) f cdv A outer s H E).nox (defBody st) t ∧ t { nx := fun _ H' => Q .non H', rt := Q } (start N vs) H) : Cal P w K mg base x (k + 1) ps sp := by
  obtain ⟨f, fd, h1, h2, h3⟩ := F.ex
  exact ⟨f, fd, h1, h2.kp, h3, h2.ok Sc len (hbody f)⟩
theorem cal_no {x : PySem.Str} {st : Stmt} {ps : List PySem.Str} {C : Ct} {k : Nat} (F : FunAt K mg x st ps) (h : ∀ S R, ¬ C S R) : Cal P w K mg base x k ps (spD K C) := by
  obtain ⟨f, fd, h1, h2, h3⟩ := F.ex
  exact ⟨f, fd, h1, h2.kp, h3, fun vs H Q E ⟨S, R, _, _, c, _⟩ => (h S R c).elim, fun A outer s H args us vs Q E _ _ _ _ ⟨S, R, _, _, c, _⟩ => (h S R c).elim⟩
end
end Dl
/-! t[::-1] of a tuple. -/
namespace Dl
open PySem PySem.Spec PyProof.Rows L2 Evl HT
section
variable {prog : Program} {w : World} {A : Around} {E : Value → Shared → Prop} {s : Shared}
theorem adjust_rev (n : Nat) : Builtin.Slice.sliceAdjust none none (-1) (n : Int) = ((n : Int) - 1, -1) := by
  unfold Builtin.Slice.sliceAdjust
  simp
theorem places_rev (n : Nat) : Builtin.Slice.slicePlaces ((n : Int) - 1) (-1) (-1) = n := by
  unfold Builtin.Slice.slicePlaces
  simp
  omega
theorem fm_congr {α β : Type} {f g : α → Option β} : ∀ {l : List α}, (∀ x ∈ l, f x = g x) → l.filterMap f = l.filterMap g
  | [], _ => rfl
  | a :: l, h => by
    rw [List.filterMap_cons, List.filterMap_cons, h a (by simp), fm_congr (l := l) fun x hx => h x (List.mem_cons_of_mem _ hx)]
theorem pick_rev (xs : Array Value) : ((List.range xs.size).filterMap fun (m : Nat) => xs[((xs.size : Int) - 1 + (m : Int) * (-1)).toNat]?).toArray = xs.toList.reverse.toArray := by
  have e : (List.range xs.size).filterMap (fun (m : Nat) => xs[((xs.size : Int) - 1 + (m : Int) * (-1)).toNat]?) = ((List.range xs.size).map fun k => xs.size - 1 - k).filterMap (xs[·]?) := by
    rw [List.filterMap_map]
    refine fm_congr fun m hm => ?_
    have := List.mem_range.mp hm
    have e1 : ((xs.size : Int) - 1 + (m : Int) * (-1)).toNat = xs.size - 1 - m := by omega
    rw [e1]
    rfl
  rw [e, PySem.W.krv_range, List.filterMap_reverse, PySem.W.krv_all]
theorem getItem_tuple_rev {t sl : Addr} {items : Array Value} {vl vu vs : Value} {Q : Value → Shared → Prop} (ht : IsTup s.heap t items) (hs : s.heap.IsSliceOf sl vl vu vs) (pl : IsPart vl none) (pu : IsPart vu none) (ps : IsPart vs (some (-1)))
    (h : Q (.ref s.heap.objs.size) { s with heap := s.heap.push { cls := .type "tuple", data := .seq items.toList.reverse.toArray } })
    (hsz : items.size ≤ sizeLine) : wpAny (model prog w) A (getItem (.ref t) (.ref sl)) Q E s := by
  have htake : sizeOk (.seq items.toList.reverse.toArray) := by
    show items.toList.reverse.toArray.size ≤ sizeLine
    rw [List.size_toArray, List.length_reverse, Array.length_toList]
    exact hsz
  obtain ⟨os, hos, hcs, hds⟩ := id hs
  have hTs : s.TypeIs (.ref sl) "slice" := ⟨os, hos, hcs⟩
  unfold getItem
  try with_reducible refine wpAny_holding ?_
  first | refine wpAny_bind (wpAny_pure ?_) | skip
  refine wpAny_bind (wpAny_sequenceKey ht.typeIs (by decide) ?_)
  refine wpAny_bind (wpAny_callSpecial?_slot (name := Str.ofString "__getitem__") ht.typeIs PyProof.Rows.slot_tuple_getitem
    (wpAny_call_entry PyProof.Rows.slot_tuple_getitem ht.typeIs entry_tuple_getitem ?_ (args_tuple_getitem _ _)))
  show wpAny _ _ (Builtin.Tuple.tupleItemsOf (.ref t) >>= _) _ _ s
  refine wpAny_bind (tupleItemsOf_ ht ?_)
  refine wpAny_bind (wpAny_typeOf hTs ?_)
  rw [if_pos (by decide)]
  have app : ∀ {Q' : Int × Int × Nat → Shared → Prop} {E' : Value → Shared → Prop} {A' : Around}, Q' ((items.size : Int) - 1, -1, items.size) s → wpAny (model prog w) A' (Builtin.Slice.sliceApplied (.ref sl) (pure (items.size : Int))) Q' E' s := fun {Q' E' A'} q => by
    unfold Builtin.Slice.sliceApplied Builtin.Slice.sliceFields
    refine wpAny_bind (wpAny_bind (wpAny_field hos hds (x := vl) rfl (wpAny_bind (wpAny_field hos hds (x := vu) rfl (wpAny_bind (wpAny_field hos hds (x := vs) rfl (wpAny_pure ?_)))))))
    refine wpAny_bind (slicePart_ ps ?_)
    show wpAny _ _ (if ((-1 : Int) == 0) = true then _ else _) _ _ s
    rw [if_neg (by decide)]
    refine wpAny_bind (slicePart_ pl (wpAny_bind (slicePart_ pu (wpAny_bind (wpAny_pure ?_)))))
    show wpAny _ _ (match Builtin.Slice.sliceAdjust none none (-1) (items.size : Int) with | (lo, hi) => pure (lo, (-1 : Int), Builtin.Slice.slicePlaces lo hi (-1))) _ _ s
    rw [adjust_rev]
    show wpAny _ _ (pure (((items.size : Int) - 1), (-1 : Int), Builtin.Slice.slicePlaces ((items.size : Int) - 1) (-1) (-1))) _ _ s
    rw [places_rev]
    exact wpAny_pure q
  refine wpAny_bind (app ?_)
  have hno : ¬ ((((items.size : Int) - 1) == 0 && (-1 : Int) == 1 && (items.size == items.size)) = true) := by
    intro q
    rw [Bool.and_eq_true, Bool.and_eq_true] at q
    exact absurd (eq_of_beq q.1.2) (by decide)
  show wpAny _ _ (if (((items.size : Int) - 1) == 0 && (-1 : Int) == 1 && (items.size == items.size)) = true then _ else _) _ _ s
  rw [if_neg hno, pick_rev]
  first
    | exact wpAny_bind (m := Builtin.Tuple.tupleExact _) (wpAny_newObj_type (wpAny_pure ⟨_, rfl, wpAny_pure h⟩) htake)
    | exact wpAny_bind (m := Builtin.Tuple.tupleExact _) (wpAny_newObj_type (wpAny_bind (wpAny_pure (wpAny_pure ⟨_, rfl, wpAny_pure h⟩))) htake)
end
section
variable {X : Cx}
def tRevT (K : PySem.W.Frag) (te : TE) : TE := fun σ H Q => te σ H fun x H1 => ∃ a xs, x = .ref a ∧ SqT K H1 a xs ∧ ∀ p, H1 p = none → Q (.ref p) (upd H1 p (.tup xs.reverse))
theorem pe_revT {K : PySem.W.Frag} {e : Expr} {te : TE} {k : Nat} {p1 p2 p3 pos : Pos} (hK : X.K = K) (he : PE X e te) : PE X (.Subscript e (.Slice none none (some (.UnaryOp .USub (.Constant (.int 1) k p1) p2)) p3) pos) (tRevT K te) := by
  subst hK
  refine ⟨fun pins s σ H Q I h => ?_⟩
  refine Subscript_ (thn (he.run pins s σ H _ I h) fun v s1 ⟨x, H1, I1, r1, q1⟩ => ?_)
  obtain ⟨a, xs, ex, hx, q⟩ := q1
  subst ex
  cases r1
  have hst : PO X (some (.UnaryOp .USub (.Constant (.int 1) k p1) p2)) (tPart (tUn (rU fun i => .int (-i)) (tC (.int 1)))) := po_some (pe_un un_neg pe_int)
  refine wpAny_Slice (thn (po_none.run pins s1 σ H1 (fun o H2 => o = none ∧ H2 = H1) I1 ⟨rfl, rfl⟩) fun vl s2 ⟨l, H2, I2, pl, el, e2⟩ => ?_)
  subst el e2
  refine thn (po_none.run pins s2 σ H2 (fun o H3 => o = none ∧ H3 = H2) I2 ⟨rfl, rfl⟩) fun vu s3 ⟨u, H3, I3, pu, eu, e3⟩ => ?_
  subst eu e3
  refine thn (hst.run pins s3 σ H3 (fun o H4 => o = some (-1) ∧ H4 = H3) I3 ⟨1, rfl, -1, rfl, rfl, rfl⟩) fun vs s4 ⟨o, H4, I4, ps, eo, e4⟩ => ?_
  subst eo e4
  have I5 : Inv X pins σ H4 { s4 with heap := s4.heap.push { cls := .type "slice", data := .fields #[vl, vu, vs] } } := I4.kept (t' := s4.toks) fun b ob q => Heap.get?_push_of_some _ q
  obtain ⟨its, r, ht, hz⟩ := I5.tuple hx
  have hlen := r.length
  show wpAny (model X.prog X.w) X.A (subscriptTail e (.Slice none none (some (.UnaryOp .USub (.Constant (.int 1) k p1) p2)) p3) (.ref a) (.ref s4.heap.objs.size)) (EP X pins σ Q) X.xe { s4 with heap := s4.heap.push { cls := .type "slice", data := .fields #[vl, vu, vs] } }
  refine tail_any (ops := [.ref a, .ref s4.heap.objs.size]) ht.typeIs (PyProof.Rows.slot_tuple_getitem.lookup) ?_ (by with_unfolding_all rfl)
  refine getItem_tuple_rev ht (Heap.IsSliceOf.new _ vl vu vs) pl pu ps ?_ (by rw [List.size_toArray]; omega)
  refine ⟨.ref _, _, I5.laid (t' := s4.toks) (o := .tup xs.reverse) (fun b ob q => Heap.get?_push_of_some _ q) (Nat.le_refl _) ?_, rfl, q _ (I5.hok.fresh (Nat.le_refl _))⟩
  exact ⟨by rw [List.length_reverse]; exact hz, _, r.reverse, IsTup.new _ _⟩
end
theorem Rps.reverse {K : PySem.W.Frag} {H : Hp} : ∀ {ds : List D} {vs : List V}, Rps K H ds vs → Rps K H ds.reverse vs.reverse
  | [], vs, h => by
    have e : vs = [] := by unfold Rps at h; exact h
    subst e; exact rfl
  | d :: ds, vs, h => by
    obtain ⟨v, r, rfl, h1, h2⟩ := (show ∃ v r, vs = v :: r ∧ Rp K H d v ∧ Rps K H ds r by unfold Rps at h; exact h)
    rw [List.reverse_cons, List.reverse_cons]
    exact (Rps.reverse h2).append ⟨v, [], rfl, h1, rfl⟩
theorem evp_revt {K : PySem.W.Frag} {S : List M} {te : TE} {ds : List D} (h : EvB K te S (.tup ds)) : EvP K (tRevT K te) S (.tup ds.reverse) := fun Pn pl G H0 H σ Rr Q q => h Pn pl G H0 H σ Rr _ fun v H01 H1 g1 e1 R1 p1 => by
  obtain ⟨a, vs, rfl, h0, h1, h2⟩ := p1.tup R1.e0
  refine ⟨a, vs, rfl, st_of h1, fun p hp => ?_⟩
  obtain ⟨g2, e2, R2⟩ := R1.lay (o := .tup vs.reverse) hp
  exact q _ _ _ (g1.trans g2) (e1.trans e2) R2 ⟨p, _, rfl, upd_same, Rps.mono g2.ex _ _ h2.reverse⟩
theorem evf_revl {K : PySem.W.Frag} {S : List M} {te : TE} {ds : List D} (h : EvB K te S (.lst ds)) : EvF K (tRevL K te) S (.lst ds.reverse) := fun Pn pl G H0 H σ Rr Q q => h Pn pl G H0 H σ Rr _ fun v H01 H1 g1 e1 R1 p1 => by
  obtain ⟨a, vs, rfl, h1, h2⟩ := p1.lst R1.e0
  refine ⟨a, vs, rfl, sq_of h1, fun p hp => ?_⟩
  obtain ⟨R2, n0, ng, ap, e2⟩ := R1.new_own (o := .lst vs.reverse) hp
  exact q p H01 _ g1 (e1.trans e2) R2 n0 ng ap ⟨_, upd_same, h2.reverse⟩
theorem evp_ty {K : PySem.W.Frag} {S : List M} {n : String} : EvP K (tC (.ty n)) S (.ty n) := fun Pn pl G H0 H σ Rr Q q => q _ H0 H (Gr.refl _ _) (Ex.refl _) Rr rfl
theorem emb_bl : Emb D.bl 0 := ⟨fun _ => rfl, fun _ => rfl, fun _ => Nat.le_refl _, fun a b => by simp [D.py, PyData.eqv]⟩
theorem v_eqbl {K : PySem.W.Frag} {a b : Bool} : V2P K (rEqD K) (.bl a) (.bl b) (.bl (decide (a = b))) := v_eqT emb_bl (by decide)
theorem v_nebl {K : PySem.W.Frag} {a b : Bool} : V2P K (rNeD K) (.bl a) (.bl b) (.bl (!decide (a = b))) := v_neT emb_bl (by decide)
end Dl
/-! sorted(set(xs)), xs a list of tuples of ints of any lengths, none of them empty. -/
namespace Dl
open PySem PySem.Spec PyProof.Rows Srt SrtO L2
theorem lex_asym : ∀ a b : List Int, HT.lexLt a b = true → HT.lexLt b a = false
  | [], [], h => by cases h
  | [], _ :: _, _ => rfl
  | _ :: _, [], h => by cases h
  | x :: a, y :: b, h => by
    rw [HT.lexLt_cons] at h ⊢
    by_cases e : x = y
    · rw [if_pos e] at h; rw [if_pos e.symm]; exact lex_asym a b h
    · rw [if_neg e] at h
      rw [if_neg fun z => e z.symm]
      have := of_decide_eq_true h
      exact decide_eq_false (by omega)
theorem lex_tr : ∀ a b c : List Int, HT.lexLt b a = false → HT.lexLt c b = false → HT.lexLt c a = false
  | [], _, [], _, _ => rfl
  | _ :: _, _, [], _, h => by
    rename_i x a b h1
    cases b with
    | nil => cases h1
    | cons y b => cases h
  | [], _, _ :: _, _, _ => rfl
  | x :: a, [], z :: c, h1, h2 => by cases h1
  | x :: a, y :: b, z :: c, h1, h2 => by
    rw [HT.lexLt_cons] at *
    by_cases e1 : y = x
    · rw [if_pos e1] at h1
      by_cases e2 : z = y
      · rw [if_pos e2] at h2
        rw [if_pos (e2.trans e1)]
        exact lex_tr a b c h1 h2
      · rw [if_neg e2] at h2
        rw [← e1, if_neg e2]
        exact h2
    · rw [if_neg e1] at h1
      have k1 := of_decide_eq_false h1
      by_cases e2 : z = y
      · rw [e2, if_neg e1]; exact h1
      · rw [if_neg e2] at h2
        have k2 := of_decide_eq_false h2
        rw [if_neg (by omega)]
        exact decide_eq_false (by omega)
theorem swo_lexI (k : Value → List Int) : Swo fun v u => HT.lexLt (k v) (k u) := ⟨fun x y => lex_asym _ _, fun x y z => lex_tr _ _ _⟩
def lexF (fin : Bool) : List Int → List Int → Bool
  | x :: a, y :: b => if x = y then lexF fin a b else decide (x < y)
  | _, _ => fin
theorem lexF_eq : ∀ a b : List Int, lexF (decide (a.length < b.length)) a b = HT.lexLt a b
  | [], [] => rfl
  | [], _ :: _ => rfl
  | _ :: _, [] => rfl
  | x :: a, y :: b => by
    rw [HT.lexLt_cons, ← lexF_eq a b, show decide ((x :: a).length < (y :: b).length) = decide (a.length < b.length) by simp]
    rfl
section
variable {prog : Program} {w : World} {A : Around} {E : Value → Shared → Prop} {s : Shared}
theorem kat_ints {fin : Bool} {Q : Bool → Shared → Prop} : ∀ {xs ys : List Value} {ns ms : List Int} {i : Nat}, IntsAre xs ns → IntsAre ys ms → Q (lexF fin ns ms) s → PySem.W.KatLex prog w A true fin Q (xs.zip ys) i s
  | _, _, _, _, i, .nil, hy, h => by
    rw [List.zip_nil_left]
    cases hy <;> exact PySem.W.kat_nil h
  | _, _, _, _, i, .cons n t r, .nil, h => by
    rw [List.zip_nil_right]
    exact PySem.W.kat_nil h
  | _, _, _, _, i, .cons n t r, .cons m u r', h => by
    rw [List.zip_cons_cons]
    refine PySem.W.kat_cons (SeqAt.EqAt.int_int n t m u prog w _ _ ?_)
    refine PySem.W.kat_go (fun e1 => ?_) (fun e1 => ?_)
    · have ex : n = m := by simpa using e1
      refine PySem.W.kat_yes (kat_ints r r' ?_)
      simp only [lexF, if_pos ex] at h
      exact h
    · have ex : ¬ n = m := by simpa using e1
      simp only [lexF, if_neg ex] at h
      exact PySem.W.kat_no (TS.oneLt_ints _ h)
theorem tup_cmp {vs : List Value} {k : Value → List Int} (hp : ∀ v ∈ vs, TS.TupInts s.heap v (k v)) : Cmp prog w A s (tuples' true) (fun p => p.1 ∈ vs) (lt2 fun v u => HT.lexLt (k v) (k u)) := by
  intro p q hm hm'
  have h1 := hp _ hm
  have h2 := hp _ hm'
  show wpAny (model prog w) A (keyLt' (tuples' true) p.1 q.1) (fun r s' => s' = s ∧ r = HT.lexLt (k p.1) (k q.1)) (fun _ _ => False) s
  generalize k p.1 = x at h1 ⊢
  generalize k q.1 = x' at h2 ⊢
  obtain ⟨a, xs, e, ⟨o, ho, hc, n, hd⟩, i1⟩ := h1
  obtain ⟨a', xs', e', ⟨o', ho', hc', n', hd'⟩, i2⟩ := h2
  rw [e, e']
  refine PySem.W.kat_lt ho hd ho' hd' (kat_ints i1 i2 ⟨rfl, ?_⟩)
  rw [← lexF_eq, ← i1.length, ← i2.length, Array.length_toList, Array.length_toList]
theorem firsts_ints {h : Heap} : ∀ {vs : List Value}, (∀ v ∈ vs, ∃ ns, TS.TupInts h v ns ∧ ns ≠ []) → ∃ fs : List Value, PySem.W.KatTups h vs fs ∧ fs.length = vs.length ∧ ∀ f ∈ fs, ∃ x t, f = Value.int x t
  | [], _ => ⟨[], PySem.W.KatTups.nil, rfl, fun _ hm => by simp at hm⟩
  | v :: vs, hp => by
    obtain ⟨fs, h1, h2, h3⟩ := firsts_ints (vs := vs) fun v' hm => hp v' (List.mem_cons_of_mem _ hm)
    obtain ⟨ns, ⟨a, xs, e, ⟨o, ho, hc, n, hd⟩, i⟩, ne⟩ := hp v (List.mem_cons_self ..)
    subst e
    cases hx : xs.toList with
    | nil => rw [hx] at i; cases i; exact absurd rfl ne
    | cons y ys =>
      rw [hx] at i
      cases i with
      | cons m t r =>
        refine ⟨.int m t :: fs, PySem.W.KatTups.cons ho hc hd (by rw [← Array.getElem?_toList, hx]; rfl) h1, by rw [List.length_cons, List.length_cons, h2], fun f hm => ?_⟩
        rcases List.mem_cons.mp hm with rfl | hm
        · exact ⟨m, t, rfl⟩
        · exact h3 f hm
theorem tups_sortableO {a : Addr} {vs : List Value} {k : Value → List Int} (h0 : 0 < vs.length) (hp : ∀ v ∈ vs, TS.TupInts s.heap v (k v)) (hne : ∀ v ∈ vs, k v ≠ []) (ha : ∀ o, s.heap.get? a = some o → o.cls ≠ .type "tuple") : SortableO prog w A s a vs fun v u => HT.lexLt (k v) (k u) := by
  intro h' keep
  have hp' : ∀ v ∈ vs, TS.TupInts h' v (k v) := fun v hm => (hp v hm).keeps fun b o e c => keep b o (fun z => by subst z; exact ha o e c) e
  obtain ⟨fs, h1, h2, h3⟩ := firsts_ints fun v hm => ⟨_, hp' v hm, hne v hm⟩
  refine ⟨tuples' true, fun Q E hq => ?_, tup_cmp hp'⟩
  refine PySem.W.kat_kind (T := .type "int") h1 (by omega) (fun f hm => ?_) (by rfl) ?_
  · obtain ⟨x, t, rfl⟩ := h3 f hm
    exact PySem.W.Looks.now
  · have e : (Value.type "int" != Value.type "tuple") = true := by first | decide +kernel | rfl | decide
    rw [e]
    exact hq
end
section
variable {P : Program} {w : World} {A : Around} {E : Value → Shared → Prop} {s : Shared}
theorem sorted_setU {a : Addr} {L : List (Addr × List Int)} {es : Array (Int × Value)} {ep : Nat} {t : SetTable} {Q : Value → Shared → Prop} (R : SetTR P w s.heap a L es ep t) (hh : A.handled = none) (hne : ∀ p ∈ L, p.2 ≠ [])
    (hQ : ∀ s' p (out : Array Value) (c : Nat) (L' : List (Addr × List Int)), (∀ b o, s.heap.get? b = some o → s'.heap.get? b = some o) → s'.gens = s.gens → s'.os = s.os → s.heap.objs.size ≤ p →
      s'.heap.get? p = some (seqObj "list" out c) → out.toList = L'.map (fun q => Value.ref q.1) → L'.Perm L → Q (.ref p) s') :
    wpAny (model P w) A (call (.builtin "sorted") [.ref a]) Q E s := by
  obtain ⟨o, ho, hex, hd⟩ := R.ob
  have hsz := R.size
  have hfew := R.few
  refine Calls.call_function_entry kind_sorted plain_sorted entry_sorted (args_sorted1 _) ?_
  unfold Builtin.«sorted»
  refine wpAny_bind (m := checkCount "sorted" 1 1 _) (wpAny_pure ?_)
  refine wpAny_bind (collect_set (A := A.in1) hh ⟨o, ho, hex.1, hd⟩ R.fits (by unfold scanBound; omega) R.tab.ris R.led fun s1 vs k1 hz g1 o1 pm => ?_)
  have hes : es.toList.map (·.2) = L.map fun q => Value.ref q.1 := by
    rw [R.rows]
    unfold rowsOf
    rw [List.map_map] <;> rfl
  rw [hes] at pm
  have ord : ∀ vs : List Value, (∀ v ∈ vs, ∃ q ∈ L, v = Value.ref q.1) → ∃ L1 : List (Addr × List Int), vs = L1.map (fun q => Value.ref q.1) ∧ ∀ q ∈ L1, q ∈ L := by
    intro vs
    induction vs with
    | nil => intro _; exact ⟨[], rfl, fun q hq => (by cases hq)⟩
    | cons v vs ih =>
      intro hv
      obtain ⟨q, hq, e⟩ := hv v List.mem_cons_self
      obtain ⟨L1, e1, hs⟩ := ih fun u hu => hv u (List.mem_cons_of_mem _ hu)
      refine ⟨q :: L1, by rw [List.map_cons, e, e1], fun r hr => ?_⟩
      rcases List.mem_cons.mp hr with z | z
      · rw [z]; exact hq
      · exact hs r z
  have one : ∀ q ∈ L, ∀ r ∈ L, q.1 = r.1 → q = r := fun q hq r hr e => by
    have a1 := R.tup q hq
    have a2 := R.tup r hr
    rw [e] at a1
    have e2 : q.2 = r.2 := a1.inj a2
    exact Prod.ext e e2
  have perm_of : ∀ L1 : List (Addr × List Int), (∀ q ∈ L1, q ∈ L) → (L1.map (fun q => Value.ref q.1)).Perm (L.map fun q => Value.ref q.1) → L1.Perm L := by
    intro L1 hs pm1
    have nL : L.Nodup := nodup_of_map R.nd
    have nref : (L.map fun q => Value.ref q.1).Nodup := by
      refine List.pairwise_map.mpr (List.Pairwise.imp_of_mem (fun {q r} hq hr hne e => ?_) nL)
      injection e with e
      exact hne (one q hq r hr e)
    have n1 : L1.Nodup := nodup_of_map (pm1.nodup_iff.mpr nref)
    refine (List.perm_ext_iff_of_nodup n1 nL).mpr fun q => ⟨hs q, fun hq => ?_⟩
    have hm : Value.ref q.1 ∈ L1.map (fun q => Value.ref q.1) := pm1.mem_iff.mpr (List.mem_map.mpr ⟨q, hq, rfl⟩)
    obtain ⟨r, hr, e⟩ := List.mem_map.mp hm
    injection e with e
    rw [← one r (hs r hr) q hq e]
    exact hr
  have hvl : vs.length < 64 := by rw [pm.length_eq, List.length_map]; exact hfew
  refine wpAny_bind (wpAny_newList ?_ (by rw [sizeLine_eq]; omega))
  have hoL : (s1.heap.push (seqObj "list" vs.toArray 0)).get? s1.heap.objs.size = some (seqObj "list" vs.toArray 0) := Heap.get?_push_size _ rfl
  have tk : ∀ q ∈ L, TS.TupInts (s1.heap.push (seqObj "list" vs.toArray 0)) (.ref q.1) q.2 := fun q hq => tupInts_of (P := P) (w := w) (isT_keep (R.tup q hq) fun b u e => Heap.get?_push_of_some _ (k1 b u e))
  have x : ∀ v ∈ vs, TS.TupInts (s1.heap.push (seqObj "list" vs.toArray 0)) v (TS.intsOf (s1.heap.push (seqObj "list" vs.toArray 0)) v) ∧ TS.intsOf (s1.heap.push (seqObj "list" vs.toArray 0)) v ≠ [] := fun v hv => by
    obtain ⟨q, hq, e⟩ := List.mem_map.mp (pm.mem_iff.mp hv)
    rw [← e, (tk q hq).ints]
    exact ⟨tk q hq, hne q hq⟩
  refine wpAny_bind (wpAny_holding (wpAny_call_entry slot_list_sort ⟨_, hoL, rfl⟩ entry_list_sort (list_sort_ord (s := { s1 with heap := s1.heap.push (seqObj "list" vs.toArray 0) }) (swo_lexI (TS.intsOf (s1.heap.push (seqObj "list" vs.toArray 0)))) hoL (by rw [sizeLine_eq]; omega)
    (fun h2 => tups_sortableO (by omega) (fun v hv => (x v hv).1) (fun v hv => (x v hv).2) fun o e => ?_) fun out a1 a2 => ⟨_, rfl, ?_⟩) (args_list_sort _)))
  · have e' : some o = some (seqObj "list" vs.toArray 0) := e.symm.trans hoL
    cases e'
    intro c
    exact absurd (Value.type.inj c) (by decide)
  obtain ⟨c, hc⟩ := sortedHeap_at (vs := vs) (out := out.toArray) hoL
  obtain ⟨L', e', hs'⟩ := ord out fun v hv => by
    obtain ⟨q, hq, e⟩ := List.mem_map.mp (pm.mem_iff.mp (a2.perm.mem_iff.mp hv))
    exact ⟨q, hq, e.symm⟩
  have pL : L'.Perm L := perm_of L' hs' (by rw [← e']; exact a2.perm.trans pm)
  refine wpAny_pure ⟨_, rfl, hQ _ s1.heap.objs.size out.toArray c L' (fun b u e => ?_) g1 o1 hz hc e' pL⟩
  have q := k1 b u e
  have hlt := Heap.lt_size q
  show (sortedHeap (s1.heap.push (seqObj "list" vs.toArray 0)) s1.heap.objs.size vs out.toArray).get? b = some u
  rw [sortedHeap_old (Nat.ne_of_lt hlt) (by rw [size_push']; exact Nat.lt_succ_of_lt hlt)]
  exact Heap.get?_push_of_some _ q
end
section
variable {X : Cx}
/-- sorted(set), tuples of ints, none empty: some order of its own -/
def rSortedU (K : PySem.W.Frag) (P : Program) (w : World) : List V → Hp → VK → Prop := fun vs H Q => ∃ (a : Addr) (L : List (Addr × List Int)), vs = [V.ref a] ∧ H a = some (SetTO P w a L) ∧ (∀ p ∈ L, SqT K H p.1 (p.2.map V.int)) ∧ (∀ p ∈ L, p.2 ≠ []) ∧
  ∀ (L' : List (Addr × List Int)) (p : Addr), L'.Perm L → (L'.map (·.2)).Nodup → L'.length < 64 → H p = none → Q (.ref p) (upd H p (.lst (L'.map fun q => V.ref q.1)))
theorem cr_sortedU (hc : X.calm = true) : CallR X (.builtin "sorted") (rSortedU X.K X.prog X.w) := by
  intro pins s σ H vs us Q I r h
  obtain ⟨a, L, rfl, ha, hk, hn0, q⟩ := h
  have R0 : SetT0 X.prog X.w s.heap a L := (I.hok a _ ha).1
  obtain ⟨es, ep, t, R⟩ := R0.full fun p hp => I.isT (hk p hp)
  rw [Vals.ref1 r]
  refine sorted_setU R (I.ok.hd hc) hn0 fun s' p out c L' k g o hp hg hout pm => ?_
  have hfew : L'.length < 64 := by rw [pm.length_eq]; exact R.few
  have hlen : (L'.map fun q => V.ref q.1).length ≤ sizeLine := by rw [List.length_map, sizeLine_eq]; omega
  have hn : H p = none := I.hok.fresh hp
  have hv : Vals (L'.map fun q => V.ref q.1) out.toList := by rw [hout]; exact vals_of_refs L'
  have J : Inv X pins σ (upd H p (.lst (L'.map fun q => V.ref q.1))) { s with heap := s'.heap, gens := s'.gens, drawn := s'.drawn, toks := s'.toks } :=
    I.call (ch := []) (Un.laid k hp hn) (I.hok.laid k hp ⟨hlen, out.toList, c, hv, hg⟩) (by rw [g]; exact I.bare) (fun _ z => nomatch z)
  have e : s' = { s with heap := s'.heap, gens := s'.gens, drawn := s'.drawn, toks := s'.toks } := by
    cases s'
    cases s
    cases o
    rfl
  rw [e]
  exact ⟨.ref p, _, J, rfl, q L' p pm ((pm.map (·.2)).nodup_iff.mpr R.nd) hfew hn⟩
theorem kr_setOfT {K : PySem.W.Frag} {P : Program} {w : World} (hK : X.K = K) (hP : X.prog = P) (hw : X.w = w) (hc : X.calm = true) (hu : X.A.units + 64 < cLine) : CallR X (.type "set") (rSetOfT K P w) := by subst hK; subst hP; subst hw; exact cr_setOfT hc hu
theorem kr_sortU {K : PySem.W.Frag} {P : Program} {w : World} (hK : X.K = K) (hP : X.prog = P) (hw : X.w = w) (hc : X.calm = true) : CallR X (.builtin "sorted") (rSortedU K P w) := by subst hK; subst hP; subst hw; exact cr_sortedU hc
end
section
open Evl
abbrev tupI (ns : List Int) : D := .tup (ns.map D.int)
theorem rps_tups {K : PySem.W.Frag} {H : Hp} : ∀ {xs : List (List Int)} {vs : List V}, Rps K H (xs.map tupI) vs → ∃ ks : List (Addr × List Int), vs = ks.map (fun p => V.ref p.1) ∧ ks.map (·.2) = xs ∧ ∀ p ∈ ks, H p.1 = some (.tup (p.2.map V.int))
  | [], vs, h => by
    have e : vs = [] := by unfold List.map Rps at h; exact h
    subst e
    exact ⟨[], rfl, rfl, fun p hp => by cases hp⟩
  | x :: xs, vs, h => by
    obtain ⟨v, r, rfl, h2, h3⟩ := (show ∃ v r, vs = v :: r ∧ Rp K H (tupI x) v ∧ Rps K H (xs.map tupI) r by unfold List.map Rps at h; exact h)
    obtain ⟨ks, e1, e2, e3⟩ := rps_tups h3
    obtain ⟨a, ws, rfl, q1, q2⟩ := (show ∃ a ws, v = V.ref a ∧ H a = some (.tup ws) ∧ Rps K H (x.map D.int) ws by unfold tupI Rp at h2; exact h2)
    have q3 := q2.ints
    subst q3
    refine ⟨(a, x) :: ks, by rw [e1]; rfl, by rw [List.map_cons, e2], fun p hp => ?_⟩
    rcases List.mem_cons.mp hp with z | z
    · subst z; exact q1
    · exact e3 p z
theorem rps_of_tups {K : PySem.W.Frag} {H : Hp} : ∀ (ks : List (Addr × List Int)), (∀ p ∈ ks, H p.1 = some (.tup (p.2.map V.int))) → Rps K H ((ks.map (·.2)).map tupI) (ks.map fun p => V.ref p.1)
  | [], _ => rfl
  | p :: ks, h => by
    refine ⟨_, _, rfl, ?_, rps_of_tups ks fun q hq => h q (List.mem_cons_of_mem _ hq)⟩
    show Rp K H (tupI p.2) (V.ref p.1)
    unfold tupI Rp
    exact ⟨_, _, rfl, h p (by simp), rps_ints _ _⟩
/-- sorted(set(xs)), xs a list of tuples of ints -/
theorem evo_sortsetT {P : Program} {w : World} {K : PySem.W.Frag} {S : List M} {ta : TE} {R : D → List M → Prop} {xs : List (List Int)} (ha : EvB K ta S (.lst (xs.map tupI))) (hl : xs.length < 64) (hne : ∀ s ∈ xs, s ≠ [])
    (r : ∀ ys : List (List Int), ys.Nodup → (∀ s, s ∈ ys ↔ s ∈ xs) → ys.length < 64 → R (.lst (ys.map tupI)) S) : EvO K (tCB (rSortedU K P w) (tCons (tCB (rSetOfT K P w) (tCons ta tNil)) tNil)) S R := fun Pn pl G H0 H σ Rr Q q =>
  ha Pn pl G H0 H σ Rr _ fun v H01 H1 g1 e1 R1 p1 => by
    obtain ⟨a, vs, rfl, h1, h2⟩ := p1.lst R1.e0
    obtain ⟨ks, rfl, k2, k3⟩ := rps_tups h2
    refine ⟨a, ks, rfl, sq_of h1, fun p hp => st_of (R1.e0 _ _ (k3 p hp)), by rw [← k2, List.length_map] at hl; exact hl, fun b L hb hL1 hL2 => ?_⟩
    obtain ⟨R2, _, _, _, e2⟩ := R1.new_own (o := SetTO P w b L) hb
    refine ⟨b, L, rfl, upd_same, fun p hp => st_of (e2 _ _ (R1.e0 _ _ (k3 p (hL1 p hp)))), fun p hp => hne p.2 (by rw [← k2]; exact List.mem_map_of_mem (hL1 p hp)), fun L' c pm nd h64 hc => ?_⟩
    obtain ⟨R3, a1, b1, c1, e3⟩ := R2.new_own (o := .lst (L'.map fun q => V.ref q.1)) hc
    refine q (.lst ((L'.map (·.2)).map tupI)) S c H01 _ (r _ nd (fun s => ⟨fun hs => ?_, fun hs => ?_⟩) (by rw [List.length_map]; exact h64)) g1 R3 a1 b1 c1 ⟨_, upd_same, rps_of_tups L' fun p hp => k3 p (hL1 p (pm.mem_iff.mp hp))⟩
    · obtain ⟨p, hp, rfl⟩ := List.mem_map.mp hs
      rw [← k2]
      exact List.mem_map_of_mem (hL1 p (pm.mem_iff.mp hp))
    · rw [← k2] at hs
      obtain ⟨p, hp, rfl⟩ := List.mem_map.mp hs
      obtain ⟨p', hp', e⟩ := List.mem_map.mp (hL2 p hp)
      exact List.mem_map.mpr ⟨p', pm.mem_iff.mpr hp', e⟩
end
theorem k_revL {X : Cx} {K : PySem.W.Frag} {e : Expr} {te : TE} {k : Nat} {p1 p2 p3 pos : Pos} (hK : X.K = K) (he : PE X e te) : PE X (.Subscript e (.Slice none none (some (.UnaryOp .USub (.Constant (.int 1) k p1) p2)) p3) pos) (tRevL K te) := by subst hK; exact pe_revL he
end Dl
/-! dict of pairs, list(range(a, b)), slices with a part that changes things. -/
namespace Dl
open PySem PySem.Spec PyProof.Rows L2 Evl
def rDictP (K : PySem.W.Frag) : List V → Hp → VK → Prop := fun xs H Q => ∃ (a : Addr) (ps : List Addr) (kvs : List (Key × V)), xs = [.ref a] ∧ SqL K H a (ps.map V.ref) ∧ Paired (fun p kv => SqT K H p [kV kv.1, kv.2]) ps kvs ∧ ∀ p, H p = none → Q (.ref p) (upd H p (.dK (mergeK [] kvs)))
theorem kr_dictP {X : Cx} {K : PySem.W.Frag} (hK : X.K = K) (hc : X.calm = true) : CallR X (.type "dict") (rDictP K) := by subst hK; exact call_dictP hc
section
variable {K : PySem.W.Frag} {S : List M} {ta tb te : TE} {R : D → List M → Prop}
/-- list(range(a, b)) -/
theorem evf_listRg {a b : Int} (ha : EvB K ta S (.int a)) (hb : EvB K tb S (.int b)) (h : RgOk a b) : EvF K (tLstRg (tRg2 ta tb)) S (.lst (rgD a (b - a).toNat)) := fun Pn pl G H0 H σ Rr Q q =>
  ha Pn pl G H0 H σ Rr _ fun v H01 H1 g1 e1 R1 p1 => hb Pn pl G H01 H1 σ R1 _ fun w H02 H2 g2 e2 R2 p2 => by
    refine ⟨a, b, p1.int, p2.int, h, fun p hp => ?_⟩
    obtain ⟨R3, n0, ng, ap, e3⟩ := R2.new_own (o := .lst (rgV a b)) hp
    refine q p H02 _ (g1.trans g2) ((e1.trans e2).trans e3) R3 n0 ng ap ⟨_, upd_same, ?_⟩
    have key : rgD a (b - a).toNat = ((List.range (b - a).toNat).map fun i => a + (i : Nat)).map D.int := by unfold rgD; rw [List.map_map]; rfl
    have key2 : rgV a b = ((List.range (b - a).toNat).map fun i => a + (i : Nat)).map V.int := by unfold rgV; rw [List.map_map]; rfl
    rw [key, key2]
    exact rps_ints _ _
/-- xs[:i], i reckoned by what may change things -/
theorem evo_sll_hi {th : TE} {xs : List D} (ha : EvP K te S (.lst xs)) (hh : EvN K th S fun d S1 => ∃ i : Int, d = .int i ∧ R (.lst (cutD xs none (some i))) S1) : EvO K (tSl (slU K) te tNoPart (tPart th)) S R := fun Pn pl G H0 H σ Rr Q q =>
  ha Pn pl G H0 H σ Rr _ fun v H01 H1 g1 e1 R1 p1 => hh Pn pl G H01 H1 σ R1 _ fun d S3 w H03 H3 ⟨i, ei, r⟩ g3 R3 p3 => by
    subst ei
    refine ⟨i, p3, ?_⟩
    obtain ⟨a, vs, rfl, k1, k2⟩ := (show Rb K H03 H3 (.lst xs) v from .inl (Rp.mono g3.ex _ _ p1)).lst R3.e0
    refine .inl ⟨a, vs, rfl, sq_of k1, fun p hp => ?_⟩
    obtain ⟨R4, a1, b1, c1, e4⟩ := R3.new_own (o := .lst (cutV vs none (some i))) hp
    refine q _ S3 p H03 _ r (g1.trans g3) R4 a1 b1 c1 ⟨_, upd_same, ?_⟩
    unfold cutV cutD
    rw [← k2.length]
    exact (k2.drop _).take _
theorem evn_slt_hi {th : TE} {xs : List D} (ha : EvP K te S (.tup xs)) (hh : EvN K th S fun d S1 => ∃ i : Int, d = .int i ∧ R (.tup (cutD xs none (some i))) S1) : EvN K (tSl (slU K) te tNoPart (tPart th)) S R := fun Pn pl G H0 H σ Rr Q q =>
  ha Pn pl G H0 H σ Rr _ fun v H01 H1 g1 e1 R1 p1 => hh Pn pl G H01 H1 σ R1 _ fun d S3 w H03 H3 ⟨i, ei, r⟩ g3 R3 p3 => by
    subst ei
    refine ⟨i, p3, ?_⟩
    obtain ⟨a, vs, rfl, k0, k1, k2⟩ := (show Rb K H03 H3 (.tup xs) v from .inl (Rp.mono g3.ex _ _ p1)).tup R3.e0
    refine .inr ⟨a, vs, rfl, st_of k1, fun hw => ?_, fun hw p hp => ?_⟩
    · refine q _ S3 _ H03 H3 r (g1.trans g3) R3 ⟨a, vs, rfl, k0, ?_⟩
      rw [← k2.length] at hw
      have e : cutD xs none (some i) = xs := by
        unfold cutD
        rw [hw.1, hw.2, List.drop_zero, Nat.sub_zero, List.take_length]
      rw [e]; exact k2
    · obtain ⟨g4, e4, R4⟩ := R3.lay (o := .tup (cutV vs none (some i))) hp
      refine q _ S3 _ _ _ r ((g1.trans g3).trans g4) R4 ⟨p, _, rfl, upd_same, Rps.mono g4.ex _ _ ?_⟩
      unfold cutV cutD
      rw [← k2.length]
      exact (k2.drop _).take _
theorem putK_new {acc : List (Key × V)} {k : Key} {v : V} (h : k ∉ acc.map (·.1)) : putK acc k v = acc ++ [(k, v)] := by
  unfold putK
  rw [if_neg]
  rw [List.any_eq_true]
  rintro ⟨p, hp, e⟩
  exact h (List.mem_map.mpr ⟨p, hp, of_decide_eq_true e⟩)
theorem mergeK_nd : ∀ (more acc : List (Key × V)), ((acc ++ more).map (·.1)).Nodup → mergeK acc more = acc ++ more
  | [], acc, _ => by rw [List.append_nil]; rfl
  | (k, v) :: more, acc, h => by
    have e : mergeK acc ((k, v) :: more) = mergeK (putK acc k v) more := rfl
    have hk : k ∉ acc.map (·.1) := fun z => by
      rw [List.map_append, List.map_cons, List.nodup_append] at h
      exact h.2.2 k z k (by simp) rfl
    rw [e, putK_new hk, mergeK_nd more (acc ++ [(k, v)]) (by simpa using h)]
    simp
theorem rps_dict {H : Hp} : ∀ {ps : List (Int × Int)} {vs : List V}, Rps K H (ps.map pairD) vs → ∃ as : List Addr, vs = as.map V.ref ∧ ∀ H', Ex H H' → Paired (fun (p : Addr) (kv : Key × V) => SqT K H' p [kV kv.1, kv.2]) as (ps.map fun p => (Sum.inl p.1, V.int p.2))
  | [], vs, h => by
    have e : vs = [] := by unfold List.map Rps at h; exact h
    subst e
    exact ⟨[], rfl, fun _ _ => .nil⟩
  | p :: ps, vs, h => by
    obtain ⟨v, r, rfl, h2, h3⟩ := (show ∃ v r, vs = v :: r ∧ Rp K H (pairD p) v ∧ Rps K H (ps.map pairD) r by unfold List.map Rps at h; exact h)
    obtain ⟨as, e1, e2⟩ := rps_dict h3
    obtain ⟨a, ws, rfl, q1, q2⟩ := (show ∃ a ws, v = V.ref a ∧ H a = some (.tup ws) ∧ Rps K H [.int p.1, .int p.2] ws by unfold Rp at h2; exact h2)
    have q3 : ws = [V.int p.1, V.int p.2] := Rps.ints (ns := [p.1, p.2]) q2
    subst q3
    exact ⟨a :: as, by rw [e1]; rfl, fun H' e => .cons (st_of (e _ _ q1)) (e2 H' e)⟩
/-- dict(xs), xs a list of pairs of ints, the first ones apart -/
theorem evo_dictP (ha : EvN K ta S fun d S1 => ∃ ps : List (Int × Int), d = .lst (ps.map pairD) ∧ (ps.map (·.1)).Nodup ∧ R (.dk (ps.map fun p => Sum.inl p.1) (ps.map fun p => .int p.2)) S1) : EvO K (tCB (rDictP K) (tCons ta tNil)) S R := fun Pn pl G H0 H σ Rr Q q =>
  ha Pn pl G H0 H σ Rr _ fun d S1 v H01 H1 ⟨ps, ed, nd, r⟩ g1 R1 p1 => by
    subst ed
    obtain ⟨a, vs, rfl, k1, k2⟩ := (show ∃ a vs, v = V.ref a ∧ H01 a = some (.lst vs) ∧ Rps K H01 (ps.map pairD) vs by unfold Rp at p1; exact p1)
    obtain ⟨as, rfl, k3⟩ := rps_dict k2
    refine ⟨a, as, _, rfl, sq_of (R1.e0 _ _ k1), k3 H1 R1.e0, fun p hp => ?_⟩
    have em : mergeK [] (ps.map fun p => ((Sum.inl p.1 : Key), V.int p.2)) = ps.map fun p => ((Sum.inl p.1 : Key), V.int p.2) := by
      rw [mergeK_nd, List.nil_append]
      rw [List.nil_append, List.map_map]
      have e : ((fun (x : Key × V) => x.1) ∘ fun (p : Int × Int) => ((Sum.inl p.1 : Key), V.int p.2)) = Sum.inl ∘ fun p => p.1 := rfl
      rw [e, ← List.map_map]
      exact List.pairwise_map.mpr (nd.imp fun h z => h (Sum.inl.inj z))
    rw [em]
    obtain ⟨R2, n0, ng, ap, e2⟩ := R1.new_own (o := .dK (ps.map fun p => ((Sum.inl p.1 : Key), V.int p.2))) hp
    refine q _ S1 p H01 _ r g1 R2 n0 ng ap ⟨(ps.map (·.2)).map V.int, ?_, by simp, ?_⟩
    · rw [upd_same]
      congr 1
      rw [List.map_map, List.zip_map', ]
      rfl
    · have e3 : (ps.map fun p => D.int p.2) = (ps.map (·.2)).map D.int := by rw [List.map_map]; rfl
      rw [e3]
      exact rps_ints _ _
end
end Dl
/-! enumerate, zip over lists and tuples alike, a start of one's own. -/
namespace Dl
open PySem PySem.Spec PyProof.Rows L2 Evl
/-- a list or a tuple -/
inductive Sk where
  | l | t
def Sk.sq (K : PySem.W.Frag) : Sk → Hp → Addr → List V → Prop
  | .l => SqL K
  | .t => SqT K
def Sk.is : Sk → Heap → Addr → Array Value → Prop
  | .l => fun h a its => h.IsList a its
  | .t => fun h a its => h.IsTuple a its
def Sk.itr : Sk → Heap → Addr → Addr → Nat → Prop
  | .l => fun h it a i => h.IsListIter it a i
  | .t => fun h it a i => h.IsTupleIter it a i
def Sk.obj : Sk → Addr → Obj
  | .l => fun a => { cls := .type "list_iterator", data := .fields #[.ref a, .int 0 0] }
  | .t => fun a => { cls := .type "tuple_iterator", data := .fields #[.ref a, .int 0 0] }
section
variable {X : Cx} {pins : List (Addr × Obj)} {σ : L2.St} {H : Hp} {s : Shared} {a : Addr} {xs ys : List V}
theorem Sk.inv (k : Sk) (I : Inv X pins σ H s) (h : k.sq X.K H a xs) : ∃ its : List Value, Vals xs its ∧ k.is s.heap a its.toArray := by
  cases k with
  | l => obtain ⟨its, r, p, _⟩ := I.list h; exact ⟨its, r, p.isList⟩
  | t => obtain ⟨its, r, p, _⟩ := I.tuple h; exact ⟨its, r, p⟩
theorem Sk.inj (k : Sk) (I : Inv X pins σ H s) (h : k.sq X.K H a xs) (h' : k.sq X.K H a ys) : xs = ys := by
  cases k with
  | l => exact I.list_inj h h'
  | t => exact I.tuple_inj h h'
theorem Sk.at_is (k : Sk) {h h' : Heap} {its : Array Value} (x : k.is h a its) (e : ∀ o, h.get? a = some o → h'.get? a = some o) : k.is h' a its := by
  cases k with
  | l => exact (show h.IsList a its from x).at e
  | t => exact (show h.IsTuple a its from x).at e
theorem Sk.at_itr (k : Sk) {h h' : Heap} {it : Addr} {i : Nat} (x : k.itr h it a i) (e : ∀ o, h.get? it = some o → h'.get? it = some o) : k.itr h' it a i := by
  cases k with
  | l => exact (show h.IsListIter it a i from x).at e
  | t => exact (show h.IsTupleIter it a i from x).at e
theorem Sk.live_is (k : Sk) {h : Heap} {its : Array Value} (x : k.is h a its) : ∃ o, h.get? a = some o := by
  cases k with
  | l => obtain ⟨o, ho, _⟩ := x; exact ⟨o, ho⟩
  | t => obtain ⟨o, ho, _⟩ := x; exact ⟨o, ho⟩
theorem Sk.live_itr (k : Sk) {h : Heap} {it : Addr} {i : Nat} (x : k.itr h it a i) : ∃ o, h.get? it = some o ∧ ∀ v, o.data ≠ .cell v := by
  cases k with
  | l => obtain ⟨o, ho, hc, hd⟩ := x; exact ⟨o, ho, fun v q => by rw [hd] at q; cases q⟩
  | t => obtain ⟨o, ho, hc, hd⟩ := x; exact ⟨o, ho, fun v q => by rw [hd] at q; cases q⟩
theorem Sk.start (k : Sk) {h : Heap} {it : Addr} (x : h.get? it = some (k.obj a)) : k.itr h it a 0 := by
  cases k with
  | l => exact ⟨_, x, rfl, rfl⟩
  | t => exact ⟨_, x, rfl, rfl⟩
theorem Sk.free (k : Sk) : (k.obj a).isFreed = false := by cases k <;> rfl
theorem Sk.begins (k : Sk) (its : Array Value) : Begins (.ref a) (k.obj a) fun h => k.is h a its := by
  cases k with
  | l => exact begins_list a its
  | t => exact begins_tuple a its
theorem Sk.draws (k : Sk) {prog : Program} {w : World} {A : Around} (hh : A.handled = none) (it : Addr) (hne : a ≠ it) (its : Array Value) :
    Draws prog w A it [it, a] its.size (fun i v => its[i]? = some v) (fun i h => k.itr h it a i ∧ k.is h a its) := by
  cases k with
  | l => exact Draws.list hh it a hne its
  | t => exact Draws.tuple hh it a hne its
/-- at its end -/
theorem Sk.drawsEnd (k : Sk) {prog : Program} {w : World} {A : Around} (hh : A.handled = none) (it : Addr) (its : Array Value) (i : Nat) (hx : its[i]? = none) :
    Draws prog w A it [it, a] i (fun _ _ => False) (fun j h => j = i ∧ k.itr h it a i ∧ k.is h a its) where
  live := fun _ _ st => let ⟨o, ho, _⟩ := k.live_itr st.2.1; ⟨o, ho⟩
  frame := fun _ _ _ st hk => ⟨st.1, k.at_itr st.2.1 fun o e => hk it (by simp) o e, k.at_is st.2.2 fun o e => hk a (by simp) o e⟩
  item := fun j s Q E hj st _ => by have := st.1; omega
  done := fun s Q E st hE => by
    cases k with
    | l => exact wpAny_nextOf_list_end hh st.2.1 st.2.2 hx hE
    | t => exact wpAny_nextOf_tuple_end hh st.2.1 st.2.2 hx hE
end
/-! ### enumerate -/
theorem meets_enum1 {v : Value} {o : Obj} {H : Heap → Prop} (B : Begins v o H) :
    Meets (Builtin.«enumerate.__new__» ⟨[.type "enumerate", v], []⟩) (fun _ R s => H s.heap ∧
      R (.ok (.ret (.ref (s.heap.push o).objs.size))) { s with heap := (s.heap.push o).push { cls := .type "enumerate", data := .fields #[.none, .bool false, .ref s.heap.objs.size, rawInt 0, .none, .none] } }) :=
  .of_wp fun prog w A R s h => by
    obtain ⟨hp, g, d, tk, os⟩ := s
    obtain ⟨h1, h⟩ := h
    have hsub := sub_enumerate
    have q1 : ∀ {A' : Around} {E : Value → Shared → Prop} {Q : Value → Shared → Prop}, Q (.ref hp.objs.size) ⟨hp.push o, g, d, tk, os⟩ → wpAny (model prog w) A' (pyIter v) Q E ⟨hp, g, d, tk, os⟩ :=
      fun q => B.iter prog w _ _ ⟨hp, g, d, tk, os⟩ _ h1 q
    wp_walk using q1
    refine wpAny_stack_any fun st => wpAny_pure ?_
    split
    · rename_i c _ _ _ _ _
      cases (c == Value.type "enumerate")
      · wp_walk using q1; exact ⟨_, rfl, h⟩
      · wp_walk using q1; exact ⟨_, rfl, h⟩
    · wp_walk using q1; exact ⟨_, rfl, h⟩
section
variable {prog : Program} {w : World} {A : Around} {E : Value → Shared → Prop} {s : Shared}
theorem enum_begins1 {v : Value} {o : Obj} {H : Heap → Prop} {Q : Value → Shared → Prop} (B : Begins v o H) (h1 : H s.heap)
    (h : ∀ h', IsEnum h' (s.heap.objs.size + 1) s.heap.objs.size 0 .none → h'.get? s.heap.objs.size = some o → h'.objs.size = s.heap.objs.size + 2 →
      (∀ b o, s.heap.get? b = some o → h'.get? b = some o) → Q (.ref (s.heap.objs.size + 1)) { s with heap := h' }) :
    wpAny (model prog w) A (call (.type "enumerate") [v]) Q E s := by
  refine callType_new F.called_enumerate (by decide) (F.typeCall_enumerate_1 _) (F.newCall_enumerate_1 _) (fun obj => F.args_object_init_2 obj _) F.entry_enumerate_new (meets_enum1 B) ⟨h1, ?_⟩
  have hz : (s.heap.push o).objs.size = s.heap.objs.size + 1 := Heap.size_push ..
  show _ ∧ _
  rw [hz]
  have he := Heap.get?_push_size (s.heap.push o) (o := { cls := .type "enumerate", data := .fields #[.none, .bool false, .ref s.heap.objs.size, rawInt 0, .none, .none] }) rfl
  rw [hz] at he
  exact ⟨⟨_, he, rfl⟩, h _ he (Heap.get?_push_of_some _ (Heap.get?_push_size _ B.free)) (by rw [Heap.size_push, hz]) fun b o x => Heap.get?_push_of_some _ (Heap.get?_push_of_some _ x)⟩
end
/-- the thing at a as it stands at each turn, each item in a new pair behind a number, from c on -/
def ItEn (K : PySem.W.Frag) (k : Sk) (c : Int) (a : Addr) : It :=
  ⟨fun i H => ∃ (xs : List V) (x : V), k.sq K H a xs ∧ xs[i]? = some x,
   fun i H v H' => ∃ T x, v = .ref T ∧ H T = none ∧ H' = upd H T (.tup [.int (c + (i : Nat)), x]) ∧ ∀ xs, k.sq K H a xs → xs[i]? = some x,
   fun i H => ∃ xs : List V, k.sq K H a xs ∧ xs.length ≤ i⟩
theorem turn_enumK {P : Program} {w : World} {K : PySem.W.Frag} {elts : List Expr} {kk : Nat} {tpos : Pos} (k : Sk) (c : Int) (a e it : Addr) :
    Turn P w K (.Tuple elts kk tpos) (ItEn K k c a) [e, it] e (fun i h => (∃ old, IsEnum h e it (c + (i : Nat)) old) ∧ k.itr h it a i ∧ e ≠ it ∧ a ≠ it ∧ e ≠ a) where
  mem := by simp
  obj := fun i h ⟨⟨old, he⟩, hi, _⟩ b hb => by
    have e' : b = e ∨ b = it := by simpa using hb
    rcases e' with z | z
    · rw [z]; exact ⟨_, he, fun v q => nomatch q⟩
    · rw [z]; exact k.live_itr hi
  keep := fun i h h' ⟨⟨old, he⟩, hi, hne⟩ q => ⟨⟨old, q e (by simp) _ he⟩, k.at_itr hi fun o z => q it (by simp) o z, hne⟩
  item := by
    intro X hP hw hK hc i pins s σ H E I hf ⟨⟨old, he⟩, hit, hne, hai, hea⟩ hg
    subst hP hw hK
    obtain ⟨xs, x, hq, hx⟩ := hg
    obtain ⟨its, rv, p⟩ := k.inv I hq
    obtain ⟨u, hu, ru⟩ := rv.get hx
    have hel : e < s.heap.objs.size := Heap.lt_size he
    have hil : it < s.heap.objs.size := by obtain ⟨_, q, _⟩ := k.live_itr hit; exact Heap.lt_size q
    have hu' : its.toArray[i]? = some u := by simpa using hu
    have hlt : i < its.toArray.size := (Array.getElem?_eq_some_iff.mp hu').1
    refine wpAny_pyNext_enum_itemC (k.draws (A := X.A.in1) (I.ok.hd hc) it hai its.toArray) he ⟨hit, p⟩ hlt hne (by simp [hne, hea]) fun y h' tk hy ho hst hT hsz hk => ?_
    rw [hu'] at hy
    cases hy
    refine ⟨_, rfl, wpAny_letOwnedTupleGo_enum (s := { s with heap := h', toks := tk + 1 }) ho fun h'' he' sb => ?_⟩
    have hT2 : h''.get? s.heap.objs.size = some { cls := .type "tuple", data := .seq #[.int (c + (i : Nat)) tk, u] } := (sb.2 _ (Nat.ne_of_gt hel)).trans hT
    have new : ObjOk X.prog X.w (upd H s.heap.objs.size (.tup [.int (c + (i : Nat)), x])) h'' s.heap.objs.size (.tup [.int (c + (i : Nat)), x]) :=
      ⟨by show 2 ≤ sizeLine; decide, [.int (c + (i : Nat)) tk, u], .cons ⟨_, rfl⟩ (.cons ru .nil), ⟨_, hT2, rfl, _, rfl⟩⟩
    have I1 : Inv X pins σ (upd H s.heap.objs.size (.tup [.int (c + (i : Nat)), x])) { s with heap := h'', toks := tk + 1 } :=
      I.turnedNew (ch := [e, it]) (fun b ob hb q => (sb.2 b (fun z => hb (by simp [z]))).trans (hk b ob (fun z => hb (by simp [z])) (fun z => hb (by simp [z])) q)) hf (Nat.le_refl _) new
    refine ⟨.ref s.heap.objs.size, _, I1, rfl, ⟨_, x, rfl, I.hok.fresh (Nat.le_refl _), rfl, fun ys hy => by rw [k.inj I hy hq]; exact hx⟩, ⟨⟨u, ?_⟩, k.at_itr hst.1 fun o q => (sb.2 it (Ne.symm hne)).trans q, hne, hai, hea⟩, fun b hb => ?_⟩
    · have e1 : c + ((i + 1 : Nat) : Int) = c + (i : Int) + 1 := by omega
      rw [e1]; exact he'
    · have hb' : b < s.heap.objs.size := by
        have e' : b = e ∨ b = it := by simpa using hb
        rcases e' with z | z
        · rw [z]; exact hel
        · rw [z]; exact hil
      rw [upd_ne (Nat.ne_of_lt hb')]
      exact (hf b hb).1
  done := by
    intro X hP hw hK hc i pins s σ H E I hf ⟨⟨old, he⟩, hit, hne, hai, hea⟩ hg
    subst hP hw hK
    obtain ⟨xs, hq, hx⟩ := hg
    obtain ⟨its, rv, p⟩ := k.inv I hq
    obtain ⟨f0, f1, f2, f3, f4, f5⟩ := hf it (by simp)
    have hl := rv.length
    have hx' : its.toArray[i]? = none := by simp; omega
    exact wpAny_pyNext_enum_endD (k.drawsEnd (A := X.A.in1) (I.ok.hd hc) it its.toArray i hx') he ⟨rfl, hit, p⟩ fun h' eb => ⟨rfl, I.turned (t' := s.toks) (fun b o hb q => eb b o hb q) f0 f1 f3 f4 f5⟩
  self := fun A i s Q E ⟨⟨_, he⟩, _⟩ h => wpAny_pyIter_enum he h
/-- enumerate(e); enumerate(e, c) -/
def iEnK (K : PySem.W.Frag) (ta : TA) : TI := fun σ H R => ta σ H fun vs H1 => ∃ (k : Sk) (a : Addr) (xs : List V), vs = [.ref a] ∧ k.sq K H1 a xs ∧ R (ItEn K k 0 a) H1
def iEnC (K : PySem.W.Frag) (ta : TA) : TI := fun σ H R => ta σ H fun vs H1 => ∃ (k : Sk) (c : Int) (a : Addr) (xs : List V), vs = [.ref a, .int c] ∧ (-(2 ^ 62) ≤ c ∧ c < 2 ^ 62) ∧ k.sq K H1 a xs ∧ R (ItEn K k c a) H1
theorem en_fin {X : Cx} {pins : List (Addr × Obj)} {σ : L2.St} {H : Hp} {s : Shared} {elts : List Expr} {kk : Nat} {tpos : Pos} {R : It → Hp → Prop} (k : Sk) {c : Int} {a : Addr} {h' : Heap} (I1 : Inv X pins σ H s) (al : a < s.heap.objs.size)
    (he : IsEnum h' (s.heap.objs.size + 1) s.heap.objs.size c .none) (hit : h'.get? s.heap.objs.size = some (k.obj a)) (hk : ∀ b o, s.heap.get? b = some o → h'.get? b = some o) (q : R (ItEn X.K k c a) H) :
    PIE X pins σ (.Tuple elts kk tpos) R (.ref (s.heap.objs.size + 1)) { s with heap := h' } := by
  have I2 : Inv X pins σ H { s with heap := h' } := I1.kept (t' := s.toks) hk
  refine ⟨s.heap.objs.size + 1, [s.heap.objs.size + 1, s.heap.objs.size], _, _, H, rfl, I2, turn_enumK k c a (s.heap.objs.size + 1) s.heap.objs.size, ⟨⟨.none, ?_⟩, k.start hit, Nat.succ_ne_self _, Nat.ne_of_lt al, Nat.ne_of_gt (Nat.lt_succ_of_lt al)⟩, fun b hb => ?_, q⟩
  · rw [show c + ((0 : Nat) : Int) = c by omega]; exact he
  have e' : b = s.heap.objs.size + 1 ∨ b = s.heap.objs.size := by simpa using hb
  have hle : s.heap.objs.size ≤ b := by
    rcases e' with z | z
    · rw [z]; exact Nat.le_add_right _ _
    · rw [z]; exact Nat.le_refl _
  exact I1.fpOk hle (I1.hok.fresh hle)
theorem pi_enK {X : Cx} {e : Expr} {ta : TA} {p pos tpos : Pos} {elts : List Expr} {kk : Nat} (hg : Gl X "enumerate") (hm : X.mg "enumerate" = none) (ha : PA X [e] ta) (hs : starEach [e] X.env = [(false, eval e X.env)] := by rfl) :
    PI X (.Tuple elts kk tpos) (.Call (.Name "enumerate" p) [e] [] pos) (iEnK X.K ta) := by
  refine ⟨fun pins s σ H R I h => ?_⟩
  refine Call_ (ld_blt I hg hm boot_enumerate (PyProof.Rows.callWith_type1 (thn (ha.run pos pins s σ H _ I h) fun us s1 ⟨vs, H1, I1, r1, q1⟩ => ?_) hs rfl))
  obtain ⟨k, a, xs, rfl, hq, q⟩ := q1
  cases r1 with
  | cons r rr =>
    cases rr
    cases r
    obtain ⟨its, rv, p'⟩ := k.inv I1 hq
    refine enum_begins1 (k.begins its.toArray) p' fun h' he hit hsz hk => wpAny_pyIter_enum he ?_
    obtain ⟨o, ho⟩ := k.live_is p'
    exact en_fin k I1 (Heap.lt_size ho) he hit hk q
theorem pi_enC {X : Cx} {e e2 : Expr} {ta : TA} {p pos tpos : Pos} {elts : List Expr} {kk : Nat} (hg : Gl X "enumerate") (hm : X.mg "enumerate" = none) (ha : PA X [e, e2] ta) (hs : starEach [e, e2] X.env = (false, eval e X.env) :: starEach [e2] X.env := by rfl) (hpl : (backTo pos (starEach [e2] X.env)).any (·.1) = false := by rfl) :
    PI X (.Tuple elts kk tpos) (.Call (.Name "enumerate" p) [e, e2] [] pos) (iEnC X.K ta) := by
  refine ⟨fun pins s σ H R I h => ?_⟩
  refine Call_ (ld_blt I hg hm boot_enumerate (PyProof.Rows.callWith_type1 (thn (ha.run pos pins s σ H _ I h) fun us s1 ⟨vs, H1, I1, r1, q1⟩ => ?_) hs hpl))
  obtain ⟨k, c, a, xs, rfl, ⟨hc0, hc1⟩, hq, q⟩ := q1
  cases r1 with
  | cons r rr => cases rr with
    | cons r2 rr =>
      cases rr
      cases r
      obtain ⟨t, rfl⟩ := r2
      obtain ⟨its, rv, p'⟩ := k.inv I1 hq
      refine enum_begins (k.begins its.toArray) p' (by omega) (by omega) fun h' he hit hsz hk => wpAny_pyIter_enum he ?_
      obtain ⟨o, ho⟩ := k.live_is p'
      exact en_fin k I1 (Heap.lt_size ho) he hit hk q
/-! ### as data -/
section
variable {K : PySem.W.Frag} {S : List M} {ds es : List D} {tl tl2 : TE}
def enC (c : Int) (ds : List D) : List D := ds.mapIdx fun i d => .tup [.int (c + (i : Nat)), d]
theorem jk_enK {k : Sk} {c : Int} {a : Addr} {vs : List V} {Src H0 : Hp} (h : ∀ H, Ex Src H → k.sq K H a vs) (r : Rps K H0 ds vs) : Jk K (ItEn K k c a) Src H0 (enC c ds) where
  go := fun i H e hi => by
    have hl := r.length
    have hi' : i < ds.length := by simpa [enC] using hi
    exact ⟨vs, vs[i]'(by omega), h H e, List.getElem?_eq_getElem _⟩
  stop := fun i H e hi => ⟨vs, h H e, by rw [← r.length]; simpa [enC] using hi⟩
  yld := fun i H x H' d e hd ⟨T, w, e1, hT, e2, q⟩ => by
    unfold enC at hd
    rw [List.getElem?_mapIdx] at hd
    cases z : ds[i]? with
    | none => rw [z] at hd; cases hd
    | some y =>
      rw [z] at hd
      cases hd
      obtain ⟨v, hv, rv⟩ := r.get z
      have := q vs (h H e)
      rw [hv] at this
      cases this
      exact .inr ⟨T, _, _, hT, e2, e1, rfl, _, _, rfl, rfl, _, _, rfl, rv, rfl⟩
theorem wkb_enl (h : EvB K tl S (.lst ds)) : WkB K (iEnK K (tCons tl tNil)) S (enC 0 ds) := fun Pn pl G H0 H σ Rr R q => h Pn pl G H0 H σ Rr _ fun v H0' H' g e R' p => by
  obtain ⟨a, vs, rfl, h1, h2⟩ := p.lst R'.e0
  exact ⟨.l, a, vs, rfl, sq_of h1, q _ H0' H' g e R' (jk_enK (k := .l) (fun H e => sq_of (e _ _ h1)) h2)⟩
theorem wkp_enl (h : EvP K tl S (.lst ds)) : WkP K (iEnK K (tCons tl tNil)) S (enC 0 ds) := fun Pn pl G H0 H σ Rr R q => h Pn pl G H0 H σ Rr _ fun v H0' H' g e R' p => by
  obtain ⟨a, vs, rfl, h1, h2⟩ := (show ∃ a vs, v = V.ref a ∧ H0' a = some (.lst vs) ∧ Rps K H0' ds vs by unfold Rp at p; exact p)
  exact ⟨.l, a, vs, rfl, sq_of (R'.e0 _ _ h1), q _ H0' H' g e R' (jk_enK (k := .l) (fun H e => sq_of (e _ _ h1)) h2)⟩
theorem wkp_ent (h : EvP K tl S (.tup ds)) : WkP K (iEnK K (tCons tl tNil)) S (enC 0 ds) := fun Pn pl G H0 H σ Rr R q => h Pn pl G H0 H σ Rr _ fun v H0' H' g e R' p => by
  obtain ⟨a, vs, rfl, h1, h2⟩ := (show ∃ a vs, v = V.ref a ∧ H0' a = some (.tup vs) ∧ Rps K H0' ds vs by unfold Rp at p; exact p)
  exact ⟨.t, a, vs, rfl, st_of (R'.e0 _ _ h1), q _ H0' H' g e R' (jk_enK (k := .t) (fun H e => st_of (e _ _ h1)) h2)⟩
theorem wkp_encl {c : Int} (h : EvP K tl S (.lst ds)) (hc : -(2 ^ 62) ≤ c ∧ c < 2 ^ 62) : WkP K (iEnC K (tCons tl (tCons (tC (.int c)) tNil))) S (enC c ds) := fun Pn pl G H0 H σ Rr R q => h Pn pl G H0 H σ Rr _ fun v H0' H' g e R' p => by
  obtain ⟨a, vs, rfl, h1, h2⟩ := (show ∃ a vs, v = V.ref a ∧ H0' a = some (.lst vs) ∧ Rps K H0' ds vs by unfold Rp at p; exact p)
  exact ⟨.l, c, a, vs, rfl, hc, sq_of (R'.e0 _ _ h1), q _ H0' H' g e R' (jk_enK (k := .l) (fun H e => sq_of (e _ _ h1)) h2)⟩
theorem wkp_enct {c : Int} (h : EvP K tl S (.tup ds)) (hc : -(2 ^ 62) ≤ c ∧ c < 2 ^ 62) : WkP K (iEnC K (tCons tl (tCons (tC (.int c)) tNil))) S (enC c ds) := fun Pn pl G H0 H σ Rr R q => h Pn pl G H0 H σ Rr _ fun v H0' H' g e R' p => by
  obtain ⟨a, vs, rfl, h1, h2⟩ := (show ∃ a vs, v = V.ref a ∧ H0' a = some (.tup vs) ∧ Rps K H0' ds vs by unfold Rp at p; exact p)
  exact ⟨.t, c, a, vs, rfl, hc, st_of (R'.e0 _ _ h1), q _ H0' H' g e R' (jk_enK (k := .t) (fun H e => st_of (e _ _ h1)) h2)⟩
end
/-! ### zip -/
def ItZp (K : PySem.W.Frag) (k1 k2 : Sk) (a b : Addr) : It :=
  ⟨fun i H => ∃ (xs ys : List V) (x y : V), k1.sq K H a xs ∧ k2.sq K H b ys ∧ xs[i]? = some x ∧ ys[i]? = some y,
   fun i H v H' => ∃ T x y, v = .ref T ∧ H T = none ∧ H' = upd H T (.tup [x, y]) ∧ (∀ xs, k1.sq K H a xs → xs[i]? = some x) ∧ ∀ ys, k2.sq K H b ys → ys[i]? = some y,
   fun i H => ∃ xs ys : List V, k1.sq K H a xs ∧ k2.sq K H b ys ∧ (xs.length ≤ i ∨ ys.length ≤ i)⟩
theorem turn_zipK {P : Program} {w : World} {K : PySem.W.Frag} {elts : List Expr} {kk : Nat} {tpos : Pos} (k1 k2 : Sk) {a b z TI TO i1 i2 : Addr} (D : ZipSep2 z TI TO i1 i2 [i1, a] [i2, b]) (ha : a ≠ i1) (hb : b ≠ i2) :
    Turn P w K (.Tuple elts kk tpos) (ItZp K k1 k2 a b) [z, TI, TO, i1, i2] z (fun i h => IsZip h z TI TO .none ∧ IsTupOf2 h TI (.ref i1) (.ref i2) ∧ (∃ x y, IsTupOf2 h TO x y) ∧ k1.itr h i1 a i ∧ k2.itr h i2 b i) where
  mem := by simp
  obj := fun i h ⟨hz, hTI, ⟨x, y, hTO⟩, h1, h2⟩ c hc => by
    have e' : c = z ∨ c = TI ∨ c = TO ∨ c = i1 ∨ c = i2 := by simpa using hc
    rcases e' with q | q | q | q | q <;> rw [q]
    · exact ⟨_, hz, fun v q => nomatch q⟩
    · exact ⟨_, hTI, fun v q => nomatch q⟩
    · exact ⟨_, hTO, fun v q => nomatch q⟩
    · exact k1.live_itr h1
    · exact k2.live_itr h2
  keep := fun i h h' ⟨hz, hTI, ⟨x, y, hTO⟩, h1, h2⟩ q =>
    ⟨q z (by simp) _ hz, q TI (by simp) _ hTI, ⟨x, y, q TO (by simp) _ hTO⟩, k1.at_itr h1 fun o r => q i1 (by simp) o r, k2.at_itr h2 fun o r => q i2 (by simp) o r⟩
  item := by
    intro X hP hw hK hc i pins s σ H E I hf ⟨hz, hTI, ⟨x0, y0, hTO⟩, h1, h2⟩ hg
    subst hP hw hK
    obtain ⟨xs, ys, x, y, hqx, hqy, hx, hy⟩ := hg
    obtain ⟨its, rv, p⟩ := k1.inv I hqx
    obtain ⟨its2, rv2, p2⟩ := k2.inv I hqy
    obtain ⟨u, hu, ru⟩ := rv.get hx
    obtain ⟨u2, hu2, ru2⟩ := rv2.get hy
    have hu' : its.toArray[i]? = some u := by simpa using hu
    have hu2' : its2.toArray[i]? = some u2 := by simpa using hu2
    have hzl : z < s.heap.objs.size := Heap.lt_size hz
    refine wpAny_pyNext_zipD2_item D (k1.draws (A := X.A.in1) (I.ok.hd hc) i1 ha its.toArray) (k2.draws (A := X.A.in1) (I.ok.hd hc) i2 hb its2.toArray) hz hTI hTO ⟨h1, p⟩ ⟨h2, p2⟩ (Array.getElem?_eq_some_iff.mp hu').1 (Array.getElem?_eq_some_iff.mp hu2').1
      fun x1 x2 h' tk e1 e2 z' TO' s1' s2' hT hsz hk => ?_
    rw [hu'] at e1
    rw [hu2'] at e2
    cases e1
    cases e2
    refine ⟨_, rfl, wpAny_letOwnedTupleGo_zip (s := { s with heap := h', toks := tk }) z' fun h'' z'' sb => ?_⟩
    have hT2 : h''.get? s.heap.objs.size = some { cls := .type "tuple", data := .seq #[u, u2] } := (sb.2 _ (Nat.ne_of_gt hzl)).trans hT
    have new : ObjOk X.prog X.w (upd H s.heap.objs.size (.tup [x, y])) h'' s.heap.objs.size (.tup [x, y]) :=
      ⟨by show 2 ≤ sizeLine; decide, [u, u2], .cons ru (.cons ru2 .nil), ⟨_, hT2, rfl, _, rfl⟩⟩
    have I1 : Inv X pins σ (upd H s.heap.objs.size (.tup [x, y])) { s with heap := h'', toks := tk } :=
      I.turnedNew (ch := [z, TI, TO, i1, i2]) (fun c o hb q => (sb.2 c (fun q' => hb (by simp [q']))).trans (hk c o (fun q' => hb (by simp [q'])) (fun q' => hb (by simp [q'])) (fun q' => hb (by simp [q'])) (fun q' => hb (by simp [q'])) q)) hf (Nat.le_refl _) new
    refine ⟨.ref s.heap.objs.size, _, I1, rfl, ⟨_, x, y, rfl, I.hok.fresh (Nat.le_refl _), rfl, fun l hl => by rw [k1.inj I hl hqx]; exact hx, fun l hl => by rw [k2.inj I hl hqy]; exact hy⟩, ⟨z'', ?_, ⟨u, u2, ?_⟩, ?_, ?_⟩, fun c hcm => ?_⟩
    · refine (sb.2 _ D.TIz).trans (hk _ _ D.TIz D.TITO D.TIi1 D.TIi2 hTI)
    · exact (sb.2 _ D.TOz).trans TO'
    · exact k1.at_itr s1'.1 fun o q => (sb.2 _ (Ne.symm D.zi1)).trans q
    · exact k2.at_itr s2'.1 fun o q => (sb.2 _ (Ne.symm D.zi2)).trans q
    · have hlt : c < s.heap.objs.size := by
        have e' : c = z ∨ c = TI ∨ c = TO ∨ c = i1 ∨ c = i2 := by simpa using hcm
        rcases e' with q | q | q | q | q <;> rw [q]
        · exact hzl
        · exact Heap.lt_size hTI
        · exact Heap.lt_size hTO
        · obtain ⟨_, e1, _⟩ := k1.live_itr h1; exact Heap.lt_size e1
        · obtain ⟨_, e2, _⟩ := k2.live_itr h2; exact Heap.lt_size e2
      rw [upd_ne (Nat.ne_of_lt hlt)]
      exact (hf c hcm).1
  done := by
    intro X hP hw hK hc i pins s σ H E I hf ⟨hz, hTI, ⟨x0, y0, hTO⟩, h1, h2⟩ hg
    subst hP hw hK
    obtain ⟨xs, ys, hqx, hqy, hend⟩ := hg
    obtain ⟨its, rv, p⟩ := k1.inv I hqx
    obtain ⟨its2, rv2, p2⟩ := k2.inv I hqy
    have l1 := rv.length
    have l2 := rv2.length
    have fin : ∀ h' tk, (∀ c o, c ≠ z → c ≠ TO → c ≠ i1 → c ≠ i2 → s.heap.get? c = some o → h'.get? c = some o) → (none : Option Value) = none ∧ Inv X pins σ H { s with heap := h', toks := tk } := fun h' tk hk =>
      ⟨rfl, I.turnedL (t' := tk) (ch := [z, TI, TO, i1, i2]) (fun c o hb q => hk c o (fun q' => hb (by simp [q'])) (fun q' => hb (by simp [q'])) (fun q' => hb (by simp [q'])) (fun q' => hb (by simp [q'])) q) hf⟩
    by_cases hx : its.toArray[i]? = none
    · by_cases hy : its2.toArray[i]? = none
      · exact wpAny_pyNext_zipD2_end D (k1.drawsEnd (A := X.A.in1) (I.ok.hd hc) i1 its.toArray i hx) (k2.drawsEnd (A := X.A.in1) (I.ok.hd hc) i2 its2.toArray i hy) hz hTI hTO ⟨rfl, h1, p⟩ ⟨rfl, h2, p2⟩ (Nat.le_refl _) (Nat.le_refl _) (.inl rfl) fin
      · have : i < its2.toArray.size := by
          cases q : its2.toArray[i]? with
          | none => exact absurd q hy
          | some v => exact (Array.getElem?_eq_some_iff.mp q).1
        exact wpAny_pyNext_zipD2_end D (k1.drawsEnd (A := X.A.in1) (I.ok.hd hc) i1 its.toArray i hx) (k2.draws (A := X.A.in1) (I.ok.hd hc) i2 hb its2.toArray) hz hTI hTO ⟨rfl, h1, p⟩ ⟨h2, p2⟩ (Nat.le_refl _) (Nat.le_of_lt this) (.inl rfl) fin
    · have q1 : i < its.toArray.size := by
        cases q : its.toArray[i]? with
        | none => exact absurd q hx
        | some v => exact (Array.getElem?_eq_some_iff.mp q).1
      have hy : its2.toArray[i]? = none := by
        rw [List.size_toArray] at q1
        simp
        omega
      exact wpAny_pyNext_zipD2_end D (k1.draws (A := X.A.in1) (I.ok.hd hc) i1 ha its.toArray) (k2.drawsEnd (A := X.A.in1) (I.ok.hd hc) i2 its2.toArray i hy) hz hTI hTO ⟨h1, p⟩ ⟨rfl, h2, p2⟩ (Nat.le_of_lt q1) (Nat.le_refl _) (.inr rfl) fin
  self := fun A i s Q E st h => wpAny_pyIter_zip st.1 h
def iZpK (K : PySem.W.Frag) (ta : TA) : TI := fun σ H R => ta σ H fun vs H1 => ∃ (k1 k2 : Sk) (a b : Addr) (xs ys : List V), vs = [.ref a, .ref b] ∧ k1.sq K H1 a xs ∧ k2.sq K H1 b ys ∧ R (ItZp K k1 k2 a b) H1
theorem pi_zpK {X : Cx} {e e2 : Expr} {ta : TA} {p pos tpos : Pos} {elts : List Expr} {kk : Nat} (hg : Gl X "zip") (hm : X.mg "zip" = none) (ha : PA X [e, e2] ta)
    (hs : starEach [e, e2] X.env = (false, eval e X.env) :: starEach [e2] X.env := by rfl) (hpl : (backTo pos (starEach [e2] X.env)).any (·.1) = false := by rfl) :
    PI X (.Tuple elts kk tpos) (.Call (.Name "zip" p) [e, e2] [] pos) (iZpK X.K ta) := by
  refine ⟨fun pins s σ H R I h => ?_⟩
  refine Call_ (ld_blt I hg hm PyProof.Rows.boot_zip (PyProof.Rows.callWith_type1 (thn (ha.run pos pins s σ H _ I h) fun us s1 ⟨vs, H1, I1, r1, q1⟩ => ?_) hs hpl))
  obtain ⟨k1, k2, a, b, xs, ys, rfl, hqx, hqy, q⟩ := q1
  cases r1 with
  | cons r rr => cases rr with
    | cons r2 rr =>
      cases rr
      cases r
      cases r2
      obtain ⟨its, rv, p1⟩ := k1.inv I1 hqx
      obtain ⟨its2, rv2, p2⟩ := k2.inv I1 hqy
      obtain ⟨o1, ho1⟩ := k1.live_is p1
      obtain ⟨o2, ho2⟩ := k2.live_is p2
      have la := Heap.lt_size ho1
      have lb := Heap.lt_size ho2
      refine zip_begins2 (k1.begins its.toArray) (k2.begins its2.toArray) p1 p2 fun h' hz hTI hTO g1 g2 hsz hk => wpAny_pyIter_zip hz ?_
      have I2 : Inv X pins σ H1 { s1 with heap := h' } := I1.kept (t' := s1.toks) hk
      refine ⟨s1.heap.objs.size + 4, [s1.heap.objs.size + 4, s1.heap.objs.size + 2, s1.heap.objs.size + 3, s1.heap.objs.size, s1.heap.objs.size + 1], _, _, H1, rfl, I2,
        turn_zipK k1 k2 (zip_sep2 (fp1 := [a]) (fp2 := [b]) (by simpa using la) (by simpa using lb)) (Nat.ne_of_lt la) (Nat.ne_of_lt (Nat.lt_succ_of_lt lb)), ⟨hz, hTI, ⟨_, _, hTO⟩, k1.start g1, k2.start g2⟩, fun c hcm => ?_, q⟩
      have e' : c = s1.heap.objs.size + 4 ∨ c = s1.heap.objs.size + 2 ∨ c = s1.heap.objs.size + 3 ∨ c = s1.heap.objs.size ∨ c = s1.heap.objs.size + 1 := by simpa using hcm
      have hle : s1.heap.objs.size ≤ c := by
        rcases e' with z | z | z | z | z <;> rw [z]
        · exact Nat.le_add_right _ _
        · exact Nat.le_add_right _ _
        · exact Nat.le_add_right _ _
        · exact Nat.le_refl _
        · exact Nat.le_add_right _ _
      exact I1.fpOk hle (I1.hok.fresh hle)
section
variable {K : PySem.W.Frag} {S : List M} {ds es : List D} {tl tl2 : TE} {x y : D}
def zpD (ds es : List D) : List D := (ds.zip es).map fun p => .tup [p.1, p.2]
def seqD : D → Option (Sk × List D)
  | .lst ds => some (.l, ds)
  | .tup ds => some (.t, ds)
  | _ => none
theorem seq_of {H0 H : Hp} {v : V} {k : Sk} (h : seqD x = some (k, ds)) (r : Rb K H0 H x v) (e : Ex H0 H) : ∃ a vs, v = .ref a ∧ Rps K H0 ds vs ∧ ∀ H', Ex H H' → k.sq K H' a vs := by
  cases x <;> cases h
  · obtain ⟨a, vs, rfl, _, h2, h3⟩ := r.tup e
    exact ⟨a, vs, rfl, h3, fun H' e' => st_of (e' _ _ h2)⟩
  · obtain ⟨a, vs, rfl, h1, h2⟩ := r.lst e
    exact ⟨a, vs, rfl, h2, fun H' e' => sq_of (e' _ _ h1)⟩
theorem jk_zpK {k1 k2 : Sk} {a b : Addr} {vs ws : List V} {Src H0 : Hp} (h : ∀ H, Ex Src H → k1.sq K H a vs) (h' : ∀ H, Ex Src H → k2.sq K H b ws) (r : Rps K H0 ds vs) (r' : Rps K H0 es ws) : Jk K (ItZp K k1 k2 a b) Src H0 (zpD ds es) where
  go := fun i H e hi => by
    have hl := r.length
    have hl' := r'.length
    have hi' : i < ds.length ∧ i < es.length := by
      unfold zpD at hi
      rw [List.length_map, List.length_zip] at hi
      omega
    exact ⟨vs, ws, vs[i]'(by omega), ws[i]'(by omega), h H e, h' H e, List.getElem?_eq_getElem _, List.getElem?_eq_getElem _⟩
  stop := fun i H e hi => by
    have hl := r.length
    have hl' := r'.length
    unfold zpD at hi
    rw [List.length_map, List.length_zip] at hi
    exact ⟨vs, ws, h H e, h' H e, by omega⟩
  yld := fun i H x H' d e hd ⟨T, u, u2, e1, hT, e2, q, q'⟩ => by
    unfold zpD at hd
    rw [List.getElem?_map] at hd
    cases z : (ds.zip es)[i]? with
    | none => rw [z] at hd; cases hd
    | some p =>
      rw [z] at hd
      cases hd
      obtain ⟨z1, z2⟩ := List.getElem?_zip_eq_some.mp z
      obtain ⟨v, hv, rv⟩ := r.get z1
      obtain ⟨v2, hv2, rv2⟩ := r'.get z2
      have := q vs (h H e)
      rw [hv] at this
      cases this
      have := q' ws (h' H e)
      rw [hv2] at this
      cases this
      exact .inr ⟨T, _, _, hT, e2, e1, rfl, _, _, rfl, rv, _, _, rfl, rv2, rfl⟩
/-- zip(a, b): lists and tuples -/
theorem wkb_zp {k1 k2 : Sk} (h : EvB K tl S x) (h2 : EvB K tl2 S y) (hx : seqD x = some (k1, ds)) (hy : seqD y = some (k2, es)) : WkB K (iZpK K (tCons tl (tCons tl2 tNil))) S (zpD ds es) := fun Pn pl G H0 H σ Rr R q =>
  h Pn pl G H0 H σ Rr _ fun v H01 H1 g1 e1 R1 p1 => h2 Pn pl G H01 H1 σ R1 _ fun w H02 H2 g2 e2 R2 p2 => by
    obtain ⟨a, vs, rfl, r1, s1⟩ := seq_of hx p1 R1.e0
    obtain ⟨b, ws, rfl, r2, s2⟩ := seq_of hy p2 R2.e0
    exact ⟨k1, k2, a, b, vs, ws, rfl, s1 _ e2, s2 _ (Ex.refl _), q _ H02 H2 (g1.trans g2) (e1.trans e2) R2 (jk_zpK (fun H e => s1 H (e2.trans e)) s2 (Rps.mono g2.ex _ _ r1) r2)⟩
theorem seq_ofP {H0 : Hp} {v : V} {k : Sk} (h : seqD x = some (k, ds)) (r : Rp K H0 x v) : ∃ a vs, v = .ref a ∧ Rps K H0 ds vs ∧ ∀ H', Ex H0 H' → k.sq K H' a vs := by
  cases x <;> cases h
  · obtain ⟨a, vs, rfl, h1, h2⟩ := (show ∃ a vs, v = V.ref a ∧ H0 a = some (.tup vs) ∧ Rps K H0 ds vs by unfold Rp at r; exact r)
    exact ⟨a, vs, rfl, h2, fun H' e' => st_of (e' _ _ h1)⟩
  · obtain ⟨a, vs, rfl, h1, h2⟩ := (show ∃ a vs, v = V.ref a ∧ H0 a = some (.lst vs) ∧ Rps K H0 ds vs by unfold Rp at r; exact r)
    exact ⟨a, vs, rfl, h2, fun H' e' => sq_of (e' _ _ h1)⟩
theorem wkp_zp {k1 k2 : Sk} (h : EvP K tl S x) (h2 : EvP K tl2 S y) (hx : seqD x = some (k1, ds)) (hy : seqD y = some (k2, es)) : WkP K (iZpK K (tCons tl (tCons tl2 tNil))) S (zpD ds es) := fun Pn pl G H0 H σ Rr R q =>
  h Pn pl G H0 H σ Rr _ fun v H01 H1 g1 e1 R1 p1 => h2 Pn pl G H01 H1 σ R1 _ fun w H02 H2 g2 e2 R2 p2 => by
    obtain ⟨a, vs, rfl, r1, s1⟩ := seq_ofP hx p1
    obtain ⟨b, ws, rfl, r2, s2⟩ := seq_ofP hy p2
    exact ⟨k1, k2, a, b, vs, ws, rfl, s1 _ (g2.ex.trans R2.e0), s2 _ R2.e0, q _ H02 H2 (g1.trans g2) (e1.trans e2) R2 (jk_zpK (fun H e => s1 H (g2.ex.trans e)) s2 (Rps.mono g2.ex _ _ r1) r2)⟩
end
end Dl
/-! Calls that change nothing: by data. -/
namespace Dl
open PySem L2 Evl
section
variable {K : PySem.W.Frag} {Pn : List Nat} {pl : Nat → V} {G H0 H : Hp} {σ : L2.St} {S : List M} {C : Ct} {d x : D} {te : TE} {ta tr : TA} {as : List Ar}
/-- no own object goes along -/
def arB : Ar → Bool
  | .s _ => false
  | _ => true
def ArP (K : PySem.W.Frag) (ta : TA) (S : List M) (as : List Ar) : Prop := ∀ Pn pl G H0 H σ, Rs K Pn pl G H0 H σ S → ∀ Q : List V → Hp → Prop,
  (∀ vs H0' H', Gr G H0 H0' → Ex H H' → Rs K Pn pl G H0' H' σ S → Arels K H0' σ as vs → Q vs H') → ta σ H Q
theorem Arels.mono {H1 : Hp} (e : Ex H0 H1) : ∀ {as : List Ar} {vs : List V}, Arels K H0 σ as vs → Arels K H1 σ as vs
  | _, _, .nil => .nil
  | _, _, .cons h t => .cons (h.mono e) (Arels.mono e t)
theorem arp_nil : ArP K tNil S [] := fun Pn pl G H0 H σ Rr Q q => q [] H0 H (Gr.refl _ _) (Ex.refl _) Rr .nil
theorem arp_p (h : EvP K te S d) (k : ArP K tr S as) : ArP K (tCons te tr) S (.d d :: as) := fun Pn pl G H0 H σ Rr Q q =>
  h Pn pl G H0 H σ Rr _ fun v H01 H1 g1 e1 R1 p1 => k Pn pl G H01 H1 σ R1 _ fun vs H02 H2 g2 e2 R2 p2 => q (v :: vs) H02 H2 (g1.trans g2) (e1.trans e2) R2 (.cons (show Arel K H02 σ (.d d) v from Rp.mono g2.ex _ _ p1) p2)
theorem arp_b {i : Nat} {m : M} (h0 : S[i]? = some m) (hm : m.rd x) (k : ArP K tr S as) : ArP K (tCons (tVar i) tr) S (.b i :: as) := fun Pn pl G H0 H σ Rr Q q => by
  obtain ⟨v, h1, _⟩ := Rr.read h0 hm
  exact ⟨v, h1, k Pn pl G H0 H σ Rr _ fun vs H02 H2 g2 e2 R2 p2 => q (v :: vs) H02 H2 g2 e2 R2 (.cons h1 p2)⟩
theorem pure_core {vs : List V} (R1 : Rs K Pn pl G H0 H σ S) (ha : Arels K H0 σ as vs) (ok : as.all arB = true) (hc : C (as.map (arM S)) fun d' _ => d' = d) {Q : VK} {E : XK}
    (q : ∀ v H0' H', Gr G H0 H0' → Ex H H' → Rs K Pn pl G H0' H' σ S → Rp K H0' d v → Q v H') : spD K C vs H Q E := by
  have noS : ∀ (j : Nat) (m : M), (as.map (arM S))[j]? = some m → m.own = false := fun j m hj => by
    rw [List.getElem?_map] at hj
    cases hq : as[j]? with
    | none => rw [hq] at hj; cases hj
    | some a =>
      rw [hq] at hj
      cases hj
      have := List.all_eq_true.mp ok a (List.mem_of_getElem? hq)
      cases a with
      | s i => cases this
      | d x => rfl
      | b i =>
        cases hm : S[i]? with
        | none => simp only [arM, hm]; rfl
        | some m => simp only [arM, hm]; cases m <;> rfl
  refine ⟨_, _, H, H0, hc, ⟨by rw [List.length_map, List.length_map, Paired.len ha], R1.e0, Ex.refl _, fun j m hj => ?_, fun j1 j2 m1 m2 h1 h2 o1 o2 e => ?_, fun i hi => by cases hi⟩, fun d' So v H02 H2 hr g2 R2 p => ?_⟩
  · rw [List.getElem?_map] at hj
    cases hq : as[j]? with
    | none => rw [hq] at hj; cases hj
    | some a =>
      rw [hq] at hj
      cases hj
      obtain ⟨v, hv, hrel⟩ := Paired.get ha hq
      refine ⟨some v, by rw [List.getElem?_map, hv]; rfl, ?_⟩
      cases a with
      | d x => exact ⟨v, rfl, hrel⟩
      | s i => have := List.all_eq_true.mp ok _ (List.mem_of_getElem? hq); cases this
      | b i =>
        have hrel' : σ[i]? = some (some v) := hrel
        cases hm : S[i]? with
        | none => rw [show arM S (.b i) = .no by simp only [arM, hm]]; trivial
        | some m =>
          obtain ⟨ov, h1, h2⟩ := R1.sl i m hm
          rw [hrel'] at h1
          cases h1
          simp only [arM, hm]
          cases m with
          | no => trivial
          | e φ => trivial
          | d x => exact h2
          | o x => obtain ⟨l, k1, k2, k3, k4⟩ := h2; exact ⟨l, k1, k4⟩
          | b x => obtain ⟨l, k1, k2⟩ := h2; exact ⟨l, k1, k2.mono R1.eg⟩
          | q ns => obtain ⟨l, k1, k2⟩ := h2; exact ⟨l, k1, ex_l R1.eg k2⟩
  · rw [noS _ _ h1] at o1; cases o1
  · subst hr
    have gs : Gr G H0 H02 := g2.sub fun a k => by
      cases z : G a with
      | none => exact absurd z k
      | some o => rw [R1.eg a o z]; exact fun z => nomatch z
    refine q v H02 H2 gs R2.eg (R1.fwd g2.ex R2.eg R2.e0 fun i m l hi ho hs h0 hl => ?_) p
    cases z : H02 l with
    | none => rfl
    | some o => exact absurd h0 (g2.new l hl (by rw [z]; exact fun z => nomatch z))
/-- f(..), that changes nothing -/
theorem evp_call {E : XK} (h : ArP K ta S as) (ok : as.all arB = true) (hc : C (as.map (arM S)) fun d' _ => d' = d) : EvP K (tCall (spD K C) [] E ta) S d := fun Pn pl G H0 H σ Rr Q q =>
  h Pn pl G H0 H σ Rr _ fun vs H01 H1 g1 e1 R1 ha => by
    rw [List.append_nil]
    exact pure_core R1 ha ok hc fun v H0' H' g e R' p => q v H0' H' (g1.trans g) (e1.trans e) R' p
/-- x.m(..), x a name -/
theorem evp_meth {Ca : Addr} {f : PySem.Str} {i : Nat} {m : M} {E : XK} (h0 : S[i]? = some m) (hm : m.insOf Ca f) (h : ArP K ta S as) (ok : as.all arB = true) (hc : C ((Ar.b i :: as).map (arM S)) fun d' _ => d' = d) :
    EvP K (tMeth Ca f (spD K C) [] E (tVar i) ta) S d := fun Pn pl G H0 H σ Rr Q q => by
  obtain ⟨ov, h1, h2⟩ := Rr.sl i m h0
  obtain ⟨a, dx, fs, rfl, k1, k2⟩ := ins_slot Rr.e0 Rr.eg h2 hm
  refine ⟨.ref a, h1, a, dx, fs, rfl, k1, k2, h Pn pl G H0 H σ Rr _ fun vs H01 H1 g1 e1 R1 ha => ?_⟩
  rw [List.append_nil]
  exact pure_core R1 (.cons (show Arel K H01 σ (.b i) (.ref a) from h1) ha) (by simpa [arB] using ok) hc fun v H0' H' g e R' p => q v H0' H' (g1.trans g) (e1.trans e) R' p
/-- e.m(..), e an instance for good -/
theorem evp_methd {Ca : Addr} {f : PySem.Str} {ns : List PySem.Str} {ds : List D} {to : TE} {E : XK} (h0 : EvP K to S (.ins Ca ns ds)) (hf : f ∉ ns) (h : ArP K ta S as) (ok : as.all arB = true) (hc : C ((Ar.d (.ins Ca ns ds) :: as).map (arM S)) fun d' _ => d' = d) :
    EvP K (tMeth Ca f (spD K C) [] E to ta) S d := fun Pn pl G H0 H σ Rr Q q => h0 Pn pl G H0 H σ Rr _ fun v H01 H1 g1 e1 R1 p1 => by
  have p1' := p1
  unfold Rp at p1'
  obtain ⟨a, dx, vs, rfl, k1, k2, k3⟩ := p1'
  refine ⟨a, dx, _, rfl, R1.e0 _ _ k1, lookup_no hf, h Pn pl G H01 H1 σ R1 _ fun us H02 H2 g2 e2 R2 ha => ?_⟩
  rw [List.append_nil]
  exact pure_core R2 (.cons (show Arel K H02 σ (.d (.ins Ca ns ds)) (.ref a) from Rp.mono g2.ex _ _ p1) ha) (by simpa [arB] using ok) hc fun v H0' H' g e R' p => q v H0' H' ((g1.trans g2).trans g) ((e1.trans e2).trans e) R' p
end
end Dl
/-! Texts, repeated lists, dicts by texts, index, extend: what they give by data. -/
namespace Dl
open PySem L2 Evl
theorem str_shaped {a : PySem.Str} (h : PySem.PyData.strOk a = true) : SeqAt.shaped (D.str a).py = true := by
  show (PySem.PyData.strOk a && decide (_ ≤ 64)) = true
  rw [h]; rfl
section
variable {X : Cx} {a b : Expr} {ta tb : TE} {pos : Pos}
/-- one sign in a text -/
def insg : R2 := fun x y H Q => ∃ (c : Nat) (z : PySem.Str), x = .str ⟨#[c]⟩ ∧ y = .str z ∧ Q (.bl (decide (c ∈ z.cps.toList))) H
def ninsg : R2 := fun x y H Q => ∃ (c : Nat) (z : PySem.Str), x = .str ⟨#[c]⟩ ∧ y = .str z ∧ Q (.bl (!decide (c ∈ z.cps.toList))) H
theorem or_insg : OpR X (compareOp .In) insg := op_in_sign
theorem or_ninsg : OpR X (compareOp .NotIn) ninsg := op_notIn_sign
def repL : R2 := rRep
theorem or_rep : OpR X (binaryOp .Mult) repL := op_rep
end
section
variable {K : PySem.W.Frag} {S : List M} {x y z d : D} {ta tb te : TE}
theorem v_eqs {a b : PySem.Str} (ha : PySem.PyData.strOk a = true) (hb : PySem.PyData.strOk b = true) : V2P K (rEqD K) (.str a) (.str b) (.bl (decide (a = b))) := by
  have := v_eq (K := K) (x := .str a) (y := .str b) rfl rfl (str_shaped ha) (str_shaped hb)
  have e : PyData.eqv (D.str a).py (D.str b).py = decide (a = b) := by
    show (a == b) = _
    by_cases q : a = b
    · subst q; simp
    · rw [beq_eq_false_iff_ne.mpr q, decide_eq_false q]
  rwa [e] at this
theorem v_nes {a b : PySem.Str} (ha : PySem.PyData.strOk a = true) (hb : PySem.PyData.strOk b = true) : V2P K (rNeD K) (.str a) (.str b) (.bl (!decide (a = b))) := by
  have := v_ne (K := K) (x := .str a) (y := .str b) rfl rfl (str_shaped ha) (str_shaped hb)
  have e : PyData.eqv (D.str a).py (D.str b).py = decide (a = b) := by
    show (a == b) = _
    by_cases q : a = b
    · subst q; simp
    · rw [beq_eq_false_iff_ne.mpr q, decide_eq_false q]
  rwa [e] at this
theorem v_ixs {z : PySem.Str} {i : Int} {c : Nat} (hz : z.length ≤ 100000) (h : atI z.cps.toList i = some c) : V2P K (rIx K) (.str z) (.int i) (.str ⟨#[c]⟩) := v2_done fun H0 H v w e hv hw =>
  ⟨_, rfl, fun Q k => .inr (.inr ⟨z, i, c, hv.str, hw.int, sz_of hz, h, k⟩)⟩
theorem v_insg {c : Nat} {z : PySem.Str} : V2P K insg (.str ⟨#[c]⟩) (.str z) (.bl (decide (c ∈ z.cps.toList))) := v2_done fun H0 H v w e hv hw => ⟨_, rfl, fun Q k => ⟨c, z, hv.str, hw.str, k⟩⟩
theorem v_ninsg {c : Nat} {z : PySem.Str} : V2P K ninsg (.str ⟨#[c]⟩) (.str z) (.bl (!decide (c ∈ z.cps.toList))) := v2_done fun H0 H v w e hv hw => ⟨_, rfl, fun Q k => ⟨c, z, hv.str, hw.str, k⟩⟩
theorem inV_strs (i : PySem.Str) (ns : List PySem.Str) : inV (.str i) (ns.map V.str) = decide (i ∈ ns) := by
  induction ns with
  | nil => rfl
  | cons n ns ih =>
    unfold inV at *
    rw [List.map_cons, List.any_cons, ih]
    show ((n == i) || decide (i ∈ ns)) = _
    by_cases q : n = i
    · subst q; simp
    · rw [beq_eq_false_iff_ne.mpr q, Bool.false_or]
      exact decide_eq_decide.mpr ⟨fun h => List.mem_cons_of_mem _ h, fun h => (List.mem_cons.mp h).elim (fun z => absurd z.symm q) fun z => z⟩
theorem flat_strs (ns : List PySem.Str) : (ns.map V.str).all flatV = true := by
  induction ns with
  | nil => rfl
  | cons n ns ih => rw [List.map_cons, List.all_cons, ih]; rfl
theorem v_in_strt {i : PySem.Str} {ns : List PySem.Str} : V2P K (inU K) (.str i) (.tup (ns.map D.str)) (.bl (decide (i ∈ ns))) := V2P.l (v2_done fun H0 H v w e hv hw => by
  obtain ⟨a, vs, rfl, h0, h1, h2⟩ := hw.tup e
  have e2 := h2.strs
  subst e2
  rw [hv.str]
  exact ⟨.bl (inV (.str i) (ns.map V.str)), by show V.bl _ = V.bl _; rw [inV_strs], fun Q q => ⟨a, _, rfl, .inr (st_of h1), rfl, flat_strs ns, q⟩⟩)
theorem v_nin_strt {i : PySem.Str} {ns : List PySem.Str} : V2P K (ninU K) (.str i) (.tup (ns.map D.str)) (.bl (!decide (i ∈ ns))) := V2P.l (v2_done fun H0 H v w e hv hw => by
  obtain ⟨a, vs, rfl, h0, h1, h2⟩ := hw.tup e
  have e2 := h2.strs
  subst e2
  rw [hv.str]
  exact ⟨.bl (!inV (.str i) (ns.map V.str)), by show V.bl _ = V.bl _; rw [inV_strs], fun Q q => ⟨a, _, rfl, .inr (st_of h1), rfl, flat_strs ns, q⟩⟩)
theorem v_in_strl {i : PySem.Str} {ns : List PySem.Str} : V2P K (inU K) (.str i) (.lst (ns.map D.str)) (.bl (decide (i ∈ ns))) := V2P.l (v2_done fun H0 H v w e hv hw => by
  obtain ⟨a, vs, rfl, h1, h2⟩ := hw.lst e
  have e2 := h2.strs
  subst e2
  rw [hv.str]
  exact ⟨.bl (inV (.str i) (ns.map V.str)), by show V.bl _ = V.bl _; rw [inV_strs], fun Q q => ⟨a, _, rfl, .inl (sq_of h1), rfl, flat_strs ns, q⟩⟩)
/-- the signs of a text, one by one -/
def sgD (z : PySem.Str) : List D := z.cps.toList.map fun c => .str ⟨#[c]⟩
theorem jk_str {z : PySem.Str} {Src H0 : Hp} : Jk K (Its z) Src H0 (sgD z) where
  go := fun i H e hi => by
    show i < z.cps.size
    simpa [sgD] using hi
  stop := fun i H e hi => by
    show z.cps.size ≤ i
    simpa [sgD] using hi
  yld := fun i H x H' d e hd ⟨e1, c, hc, ex⟩ => by
    unfold sgD at hd
    rw [List.getElem?_map, Array.getElem?_toList, hc] at hd
    cases hd
    exact .inl ⟨e1, by unfold Rp; exact ex⟩
theorem wkp_str {z : PySem.Str} (h : EvP K te S (.str z)) : WkP K (iStr te) S (sgD z) := fun Pn pl G H0 H σ Rr R q => h Pn pl G H0 H σ Rr _ fun v H0' H' g e R' p => ⟨z, p, q _ H0' H' g e R' jk_str⟩
/-- xs * k -/
theorem Rps.replicate {H : Hp} {d : D} {v : V} (h : Rp K H d v) : ∀ n : Nat, Rps K H (List.replicate n d) (List.replicate n v)
  | 0 => rfl
  | n + 1 => ⟨v, _, rfl, h, Rps.replicate h n⟩
theorem v_rep {n : Int} {ds : List D} (hn : -100000 ≤ n ∧ n ≤ 100000) (hl : ds.length * n.toNat ≤ 100000) : V2F K repL (.lst ds) (.int n) (.lst (List.replicate n.toNat ds).flatten) := fun Pn pl G H0 H σ S v w Rr hv hw Q q => by
  obtain ⟨a, vs, rfl, h1, h2⟩ := hv.lst Rr.e0
  have e := hw.int
  subst e
  refine ⟨a, n, vs, rfl, rfl, h1, by omega, by omega, ?_, fun p hp => ?_⟩
  · rw [← h2.length]; exact sz_of hl
  · obtain ⟨R2, n0, ng, ap, e2⟩ := Rr.new_own (o := .lst (List.replicate n.toNat vs).flatten) hp
    refine q p H0 _ (Gr.refl _ _) e2 R2 n0 ng ap ⟨_, upd_same, ?_⟩
    have key : ∀ m : Nat, Rps K H0 (List.replicate m ds).flatten (List.replicate m vs).flatten := fun m => by
      induction m with
      | zero => rfl
      | succ m ih => rw [List.replicate_succ, List.replicate_succ, List.flatten_cons, List.flatten_cons]; exact Rps.append h2 ih
    exact key _
theorem rep1 {α : Type} (x : α) (n : Nat) : (List.replicate n [x]).flatten = List.replicate n x := by
  induction n with
  | zero => rfl
  | succ n ih => rw [List.replicate_succ, List.flatten_cons, ih]; rfl
/-! ### methods that read -/
def rIndexU (K : PySem.W.Frag) : V → List V → Hp → VK → Prop := rIndex K
/-- xs.index(y), whole numbers -/
theorem evp_index {ns : List Int} {i : Int} {j : Nat} (ha : EvB K ta S (.lst (ns.map D.int))) (hb : EvP K tb S (.int i)) (hj : ns[j]? = some i) (hn : ∀ m, m < j → ns[m]? ≠ some i) : EvP K (tBM K "list" (rIndex K) ta (tCons tb tNil)) S (.int (j : Nat)) := fun Pn pl G H0 H σ Rr Q q =>
  ha Pn pl G H0 H σ Rr _ fun v H01 H1 g1 e1 R1 p1 => by
    obtain ⟨a, vs, rfl, h1, h2⟩ := p1.lst R1.e0
    have e := h2.ints
    subst e
    refine ⟨.inl ⟨rfl, _, sq_of h1⟩, hb Pn pl G H01 H1 σ R1 _ fun w H02 H2 g2 e2 R2 p2 => ?_⟩
    have ew : w = .int i := p2
    subst ew
    refine ⟨a, ns.map V.int, .int i, j, .int i, rfl, rfl, sq_of (e2 _ _ h1), rfl, flat_ints ns, by rw [List.getElem?_map, hj]; rfl, beq_self_eq_true i, fun m z hm hz => ?_, q _ H02 H2 (g1.trans g2) (e1.trans e2) R2 rfl⟩
    rw [List.getElem?_map] at hz
    cases z1 : ns[m]? with
    | none => rw [z1] at hz; cases hz
    | some k =>
      rw [z1] at hz
      cases hz
      exact beq_eq_false_iff_ne.mpr fun z => hn m hm (by rw [z1, z])
/-- xs.extend(ys) -/
theorem evn_extend {i : Nat} {R : D → List M → Prop} (h0 : ∃ xs, S[i]? = some (.o (.lst xs))) (h : EvN K te S fun d S' => ∃ xs ys, d = .lst ys ∧ S'[i]? = some (.o (.lst xs)) ∧ xs.length + ys.length ≤ 100000 ∧ R .non (S'.set i (.o (.lst (xs ++ ys))))) :
    EvN K (tBM K "list" rExtend (tVar i) (tCons te tNil)) S R := fun Pn pl G H0 H σ Rr Q q => by
  obtain ⟨zs, h0⟩ := h0
  obtain ⟨ov, h1, l, e1, h2, h3, vs, h4, h5⟩ := Rr.sl i _ h0
  subst e1
  refine ⟨_, h1, .inl ⟨rfl, vs, sq_of h4⟩, h Pn pl G H0 H σ Rr _ fun d S' v H0' H' ⟨xs, ys, ed, k1, k2, k3⟩ g R' p => ?_⟩
  subst ed
  obtain ⟨ov', h1', l', e1', h2', h3', vs', h4', h5'⟩ := R'.sl i _ k1
  subst e1'
  rw [h1] at h1'
  cases h1'
  obtain ⟨b, ws, rfl, q1, q2⟩ := (show ∃ b ws, v = V.ref b ∧ H0' b = some (.lst ws) ∧ Rps K H0' ys ws by unfold Rp at p; exact p)
  refine ⟨l, b, vs', ws, rfl, rfl, h4', R'.e0 _ _ q1, ?_, ?_⟩
  · rw [← h5'.length, ← q2.length]; exact sz_of k2
  exact q .non _ .non H0' _ k3 g (R'.write (o := .lst (vs' ++ ws)) k1 rfl h1 ⟨_, upd_same, h5'.append q2⟩) rfl
end
end Dl
/-! Set comprehensions over any kind of set: a kind tells what stands for a set in the heap, and what adding does. -/
namespace Dl
open PySem PySem.Spec PyProof.Rows L2 Evl PpSet
/-- a kind of sets: τ tells a set's state -/
structure SetMach (P : Program) (w : World) (K : PySem.W.Frag) (τ : Type) where
  O : Addr → τ → HO
  t0 : τ
  ok : Hp → τ → V → τ → Prop
  new : ∀ (H : Hp) (h : Heap) (a : Addr), h.get? a = some { cls := .type "set", dict := none, data := .set #[] 0 (.fresh 0 0 (!w.params.followText "set-order")) } → ObjOk P w H h a (O a t0)
  add : ∀ (X : Cx), X.prog = P → X.w = w → X.K = K → X.A.units + 64 < cLine → ∀ (pins : List (Addr × Obj)) (σ : L2.St) (H : Hp) (s : Shared) (E : Value → Shared → Prop) (D : Addr) (t t' : τ) (y : V) (u : Value) (Q : Value → Shared → Prop),
    Inv X pins σ H s → H D = some (O D t) → RelV y u → ok H t y t' → (∀ s', Inv X pins σ (upd H D (O D t')) s' → Q .none s') → wpAny (model P w) X.A (call (.builtin "set.add") [.ref D, u]) Q E s
section
variable {X : Cx} {τ : Type}
def tScM {P : Program} {w : World} {K : PySem.W.Frag} (Mc : SetMach P w K τ) (wi : TI) (g : TG) (tt : TT) (te : TE) (vs : List Nat) : TE := fun σ H Q => wi σ H fun J H1 => ∀ D, H1 D = none → ∃ W : Nat → Nat → Hp → Prop, (∃ m, W 0 m (upd H1 D (Mc.O D Mc.t0))) ∧ ∀ i m H, W i m H →
  (J.stop i H ∧ Q (.ref D) H) ∨ (J.go i H ∧ ∃ Nx : Hp → Prop, (∀ H', Nx H' → ∃ m', m' < m ∧ W (i + 1) m' H') ∧ ∀ x H', J.yld i H x H' → g x (wipe σ vs) H' fun σ2 H2 => wipe σ2 vs = wipe σ vs ∧ tt σ2 H2 fun b H3 =>
    if b = true then te σ2 H3 fun y H4 => ∃ t t', H4 D = some (Mc.O D t) ∧ Mc.ok H4 t y t' ∧ Nx (upd H4 D (Mc.O D t')) else Nx H3)
theorem scM_core (Mc : SetMach X.prog X.w X.K τ) {pins : List (Addr × Obj)} {s : Shared} {σ : L2.St} {H : Hp} {Q : VK} {elt tg iter : Expr} {ifs : List Expr} {scope : Scope} {own : List (PySem.Str × Nat)} {pos pos' : Pos} {wi : TI} {g : TG} {tt : TT} {te : TE} {use : Option (Value → Sem Unit)} {Qf : Value → Shared → Prop}
    (hc : X.calm = true) (hu : X.A.units + 64 < cLine) (hN : X.N.Nodup) (I : Inv X pins σ H s) (hi : PI X tg iter wi) (ok : BlkOk X.N X.env.scope scope own)
    (hg : ∀ (s : Shared) (H : Hp) (C : Addr) (cl : List (PySem.Str × Addr)) (fp : List Addr), PG (X.blk s H scope (compEnvC scope cl C X.env) fp) tg g)
    (ht : ∀ (s : Shared) (H : Hp) (C : Addr) (cl : List (PySem.Str × Addr)) (fp : List Addr), PTs (X.blk s H scope (compEnvC scope cl C X.env) fp) ifs tt)
    (he : ∀ (s : Shared) (H : Hp) (C : Addr) (cl : List (PySem.Str × Addr)) (fp : List Addr), PE (X.blk s H scope (compEnvC scope cl C X.env) fp) elt te) (hs : ∀ x, foldedSetIterable iter X.env x = pure x)
    (h : tScM Mc wi g tt te (own.map (·.2)) σ H Q)
    (fin : ∀ D C s' m H', Inv X pins σ H' s' → Q (.ref D) H' → s'.heap.Ns C m → FpOk X pins H' C → compPost (model X.prog X.w) X.A X.xe use Qf (.ref D) C (.ok .next) s') :
    wpAny (model X.prog X.w) X.A (comprehension (.SetComp elt [⟨tg, iter, ifs, 0⟩] scope pos) scope X.env pos' (newSet (.type "set")) false (eval iter X.env) use) Qf X.xe s := by
  have fr : ∀ y ∈ scope.names, y.2 = .free → ∃ c, X.env.cells.lookup y.1 = some c := fun y hy e => (ok.free y hy e).elim (fun k => I.ok.has _ (.inl k)) fun k => I.ok.has _ (.inr k)
  refine wpAny_comprehension_free (use := use) rfl hs (closure_ok fr) ok.kind (fun y hy e => by rw [ok.uniq y hy, e]) (thn (hi.run pins s σ H _ I h) fun xv sa ha => thn ha fun itv sb hb => ?_)
  obtain ⟨it, fp, tn, J, Hb, rfl, Ib, T, tb, fb, q⟩ := hb
  refine newSet_ok (newEnv_comp ?_)
  generalize eD : sb.heap.objs.size = D
  have nD : Hb D = none := Ib.hok.fresh (Nat.le_of_eq eD)
  obtain ⟨W, ⟨m0, w0⟩, turn⟩ := q D nD
  generalize esc : ({ sb with heap := sb.heap.push { cls := .type "set", dict := none, data := .set #[] 0 (.fresh 0 0 (!X.w.params.followText "set-order")) } } : Shared) = sc
  have hsc : sc.heap = sb.heap.push { cls := .type "set", dict := none, data := .set #[] 0 (.fresh 0 0 (!X.w.params.followText "set-order")) } := by rw [← esc]
  have Ic : Inv X pins σ (upd Hb D (Mc.O D Mc.t0)) sc := by
    rw [← esc]
    exact Ib.laid (t' := sb.toks) (fun b o e => Heap.get?_push_of_some _ e) (Nat.le_of_eq eD) (Mc.new _ _ _ (by rw [← eD]; exact Heap.get?_push_size _ rfl))
  have below : ∀ b ∈ fp, b < sb.heap.objs.size := fun b z => by
    obtain ⟨o, e, _⟩ := T.obj _ _ tb b z
    exact Heap.lt_size e
  have fc : ∀ b ∈ fp, FpOk X pins (upd Hb D (Mc.O D Mc.t0)) b ∧ b < sc.heap.objs.size := fun b z => by
    have lt := below b z
    refine ⟨⟨?_, (fb b z).2⟩, by rw [hsc, Heap.size_push]; exact Nat.lt_succ_of_lt lt⟩
    rw [upd_ne (by rw [← eD]; exact Nat.ne_of_lt lt)]
    exact (fb b z).1
  have tc : tn 0 sc.heap := T.keep _ _ _ tb fun b _ o e => by rw [hsc]; exact Heap.get?_push_of_some _ e
  have Id := block_start Ic ok hN fc
  have pg := hg sc (upd Hb D (Mc.O D Mc.t0)) sc.heap.objs.size (cellsFrom (sc.heap.objs.size + 1) scope.names (cloFrom X.env.cells scope.names [])) fp
  have pt := ht sc (upd Hb D (Mc.O D Mc.t0)) sc.heap.objs.size (cellsFrom (sc.heap.objs.size + 1) scope.names (cloFrom X.env.cells scope.names [])) fp
  have pe := he sc (upd Hb D (Mc.O D Mc.t0)) sc.heap.objs.size (cellsFrom (sc.heap.objs.size + 1) scope.names (cloFrom X.env.cells scope.names [])) fp
  show codeAny _ _ (.compStart (.SetComp elt [⟨tg, iter, ifs, 0⟩] scope pos) 0 (.ref it) (.ref D) (compEnvC scope (cellsFrom (sc.heap.objs.size + 1) scope.names (cloFrom X.env.cells scope.names [])) sc.heap.objs.size X.env))
    (compPost (model X.prog X.w) X.A X.xe use Qf (.ref D) sc.heap.objs.size) { sc with heap := pushCells (sc.heap.push { cls := .type "dict", data := .dict #[] }) scope.names }
  have none0 : ∀ b ∈ fp, (upd Hb D (Mc.O D Mc.t0)) b = none := fun b z => (fc b z).1.1
  generalize ece : compEnvC scope (cellsFrom (sc.heap.objs.size + 1) scope.names (cloFrom X.env.cells scope.names [])) sc.heap.objs.size X.env = ce at Id pg pt pe ⊢
  have loc : ce.locals = sc.heap.objs.size := by subst ece; rfl
  generalize eHc : upd Hb D (Mc.O D Mc.t0) = Hc at Ic Id pg pt pe w0 none0 fc
  generalize esd : ({ sc with heap := pushCells (sc.heap.push { cls := .type "dict", data := .dict #[] }) scope.names } : Shared) = sd at Id ⊢
  have td : tn 0 sd.heap := T.keep _ _ _ tc fun b _ o e => by rw [← esd]; exact pushCells_keeps _ _ _ _ (Heap.get?_push_of_some _ e)
  have stat : ∀ {σ' : L2.St} {H' : Hp} {s' : Shared}, Inv (X.blk sc Hc scope ce fp) [] σ' H' s' → (∀ b ∈ fp, H' b = none) → ∀ b ∈ fp, FpOk (X.blk sc Hc scope ce fp) [] H' b := fun {σ' H' s'} I' nn b z =>
    ⟨nn b z, (I'.ok.exf b z).1, I'.ok.exfs b z, .inl z, fun x c e => (I'.ok.exf b z).2 x c e, fun p hp => absurd (show p ∈ ([] : List (Addr × Obj)) ++ [] from hp) (by simp)⟩
  have loop : codeAny (model X.prog X.w) X.A (.compLoop (.SetComp elt [⟨tg, iter, ifs, 0⟩] scope pos) 0 (.ref it) (.ref D) ce) (compPost (model X.prog X.w) X.A X.xe use Qf (.ref D) sc.heap.objs.size) sd := by
    refine compLoopS_any (fun n s' => ∃ i H', Inv (X.blk sc Hc scope ce fp) [] (wipe σ (own.map (·.2))) H' s' ∧ tn i s'.heap ∧ (∀ b ∈ fp, H' b = none) ∧ W i n H') ?_ m0 ⟨0, Hc, Id, td, none0, w0⟩
    rintro n se ⟨i, He, Ie, te', ne', we⟩
    rcases turn i n He we with ⟨stop, qq⟩ | ⟨go, Nx, hNx, step⟩
    · refine thnF (T.done (X.blk sc Hc scope ce fp) rfl rfl rfl hc i [] se _ He (fun _ _ => False) Ie (stat Ie ne') te' stop) fun r sf ⟨er, If⟩ => ?_
      subst er
      have Ig : Inv X pins σ He sf := Ic.call' (ch := fp) If.os If.base If.hok If.bare fun b z => let f := (fc b z).1; ⟨f.2.2.2.1, f.2.1, f.2.2.2.2.1, f.2.2.2.2.2⟩
      have nC : He sc.heap.objs.size = none := loc ▸ If.free
      obtain ⟨m, hn, _⟩ := If.loc
      have hn' : sf.heap.Ns sc.heap.objs.size m := loc ▸ hn
      exact fin D _ sf m He Ig qq hn' (Ic.fpOk (Nat.le_refl _) nC)
    · refine thnF (T.item (X.blk sc Hc scope ce fp) rfl rfl rfl hc i [] se _ He (fun _ _ => False) Ie (stat Ie ne') te' go) fun r sf ⟨u, er, hf⟩ => ?_
      subst er
      refine thnF hf fun _ sg ⟨x, Hg, Ig, rg, yg, tg', ng⟩ => ?_
      refine thnF (pg.run _ sg _ Hg x u _ (Ig.pinned (stat Ig ng) (T.obj _ _ tg')) rg (step x Hg yg)) fun _ sh ⟨σh, Hh, Ih, hw, qh⟩ => ?_
      refine thnF (pt.run _ sh σh Hh _ Ih qh) fun b si ⟨Hi, Ii, qi⟩ => ?_
      have wrap : ∀ {s' : Shared} {H' : Hp}, Inv (X.blk sc Hc scope ce fp) ([] ++ pinsAt fp sg.heap) σh H' s' → Nx H' → ∃ m, m < n ∧ ∃ i H', Inv (X.blk sc Hc scope ce fp) [] (wipe σ (own.map (·.2))) H' s' ∧ tn i s'.heap ∧ (∀ b ∈ fp, H' b = none) ∧ W i m H' := fun {s' H'} I' nx => by
        obtain ⟨m', hm, w'⟩ := hNx H' nx
        have pin' : ∀ b ∈ fp, ∀ o, sg.heap.get? b = some o → s'.heap.get? b = some o ∧ H' b = none := fun b z o e =>
          let p := I'.pin (b, o) (List.mem_append_right _ (List.mem_append_right _ (mem_pinsAt z e)))
          ⟨p.1, p.2.1⟩
        refine ⟨m', hm, i + 1, H', (I'.unpinned (pins := [])).weak (by rw [← hw, wipe_length]) (fun j v e => ?_), T.keep _ _ _ tg' fun b z o e => (pin' b z o e).1, fun b z => ?_, w'⟩
        · rw [← hw] at e
          exact (wipe_some e).1
        · obtain ⟨o, e, _⟩ := T.obj _ _ tg' b z
          exact (pin' b z o e).2
      cases b with
      | false =>
        simp only [Bool.false_eq_true, if_false] at qi ⊢
        exact wrap Ii qi
      | true =>
        simp only [if_true] at qi ⊢
        refine thnF (pe.run _ si σh Hi _ Ii qi) fun z sj ⟨y, Hj, Ij, rj, t, t', hD, okt, nx⟩ => ?_
        exact Mc.add (X.blk sc Hc scope ce fp) rfl rfl rfl hu _ _ _ _ _ _ _ _ _ _ _ Ij hD rj okt fun s' I' => wrap I' nx
  exact codeAny_compStart_set loop (T.self X.A 0 _ _ _ td loop)
/-- {elt for target in iter if ..} -/
theorem pe_scM (Mc : SetMach X.prog X.w X.K τ) {elt tg iter : Expr} {ifs : List Expr} {scope : Scope} {own : List (PySem.Str × Nat)} {pos : Pos} {wi : TI} {g : TG} {tt : TT} {te : TE} (hc : X.calm = true) (hu : X.A.units + 64 < cLine) (hN : X.N.Nodup) (hi : PI X tg iter wi) (ok : BlkOk X.N X.env.scope scope own)
    (hg : ∀ (s : Shared) (H : Hp) (C : Addr) (cl : List (PySem.Str × Addr)) (fp : List Addr), PG (X.blk s H scope (compEnvC scope cl C X.env) fp) tg g)
    (ht : ∀ (s : Shared) (H : Hp) (C : Addr) (cl : List (PySem.Str × Addr)) (fp : List Addr), PTs (X.blk s H scope (compEnvC scope cl C X.env) fp) ifs tt)
    (he : ∀ (s : Shared) (H : Hp) (C : Addr) (cl : List (PySem.Str × Addr)) (fp : List Addr), PE (X.blk s H scope (compEnvC scope cl C X.env) fp) elt te) (hs : ∀ x, foldedSetIterable iter X.env x = pure x := by intro _; rfl) :
    PE X (.SetComp elt [⟨tg, iter, ifs, 0⟩] scope pos) (tScM Mc wi g tt te (own.map (·.2))) := by
  refine ⟨fun pins s σ H Q I h => ?_⟩
  rw [eval_SetComp]
  refine scM_core Mc hc hu hN I hi ok hg ht he hs h fun D C s' m H' I' q hn f => ⟨m, hn, fun h'' sb => ?_⟩
  obtain ⟨f0, f1, f2, f3, f4, f5⟩ := f
  exact ⟨.ref D, H', I'.turned (t' := s'.toks) (fun b o z e => (sb.2 b z).trans e) f0 f1 f3 f4 f5, rfl, q⟩
end
/-! ### keys -/
/-- sets of keys (ints, texts), by the list of those that were put in -/
def keyMach (P : Program) (w : World) (K : PySem.W.Frag) : SetMach P w K (List Key) where
  O := fun a ks => SetK P w a (pAny ks) ks.length
  t0 := []
  ok := fun _ ks y ks' => ∃ k, y = kV k ∧ ks.length + 1 < scanBound ∧ ks' = if pAny ks k = true then ks else ks ++ [k]
  new := fun H h a e => setK_new ⟨_, #[], 0, _, e, ⟨rfl, rfl, rfl⟩, rfl, (fun e he => by simp at he), (fun k => by simp [pAny]), (by decide), (by rfl), rfl⟩
  add := fun X eP ew eK hu pins σ H s E D t t' y u Q I hD ry ⟨k, ey, room, et⟩ q => by
    subst eP ew eK ey et
    refine call_set_add (kV_is ry) (key_scan ry) (setK_get I hD) room fun h' sb new => ?_
    have he : ∃ u, h'.get? D = some u := by
      have ⟨o, _, _, _, ho, _⟩ := new
      exact ⟨o, ho⟩
    refine q _ (I.write (e := D) (t' := s.toks + 1) (by rw [hD]; trivial) (.inl rfl) (fun b u hb hu => (sb.2 b hb).trans hu) he ?_)
    cases z : pAny t k with
    | true =>
      rw [z] at new
      have e : (fun j => pAny t j || decide (j = k)) = pAny t := by
        funext j
        by_cases q : j = k
        · subst q; rw [z]; rfl
        · rw [decide_eq_false q, Bool.or_false]
      rw [e] at new
      exact setK_new new
    | false =>
      rw [z] at new
      have e : (fun j => pAny t j || decide (j = k)) = pAny (t ++ [k]) := by
        funext j
        unfold pAny
        rw [List.any_append]
        simp [eq_comm]
      rw [e] at new
      have e2 : (t ++ [k]).length = t.length + 1 := by simp
      simp only [Bool.false_eq_true, if_false]
      refine setK_new ?_
      rw [e2]
      exact new
end Dl
/-! set(xs) of keys (ints, texts) that are apart; sets of keys laid one by one; len of them. -/
namespace Dl
open PySem PySem.Spec PyProof.Rows L2 Evl
section
variable {prog : Program} {w : World} {A : Around} {R : Result → Shared → Prop} {I : Addr} {fp wr : List Addr} {G : Array GenState → Array GenState → Prop} {n : Nat} {P : Nat → Value → Prop} {St : Nat → Shared → Prop}
theorem take_nd {κ : Type} {ks : List κ} (nd : ks.Nodup) {i : Nat} {k : κ} (h : ks[i]? = some k) : k ∉ ks.take i := fun z => by
  obtain ⟨j, hj, e⟩ := List.getElem_of_mem z
  rw [List.length_take] at hj
  obtain ⟨hi, e2⟩ := List.getElem?_eq_some_iff.mp h
  rw [List.getElem_take] at e
  exact absurd (e.trans e2.symm) (List.pairwise_iff_getElem.mp nd j i (by omega) hi (by omega))
/-- the loop of set(..) over keys that are apart -/
theorem set_fill (W : WalksS prog w A.in1 I fp wr G n P St) (S : Addr) (hS : S ∉ fp) (ks : List Key) (hn : ks.length = n) (nd : ks.Nodup) (hb : n + 1 < scanBound)
    (hv : ∀ i v, P i v → ∃ k, ks[i]? = some k ∧ (mixKind prog w).is k v = true ∧ v.scannable = true) : ∀ (j i : Nat) (s : Shared), n - i = j → i ≤ n → St i s →
      s.heap.SetOf (mixKind prog w) S (fun k => pAny (ks.take i) k) i →
      (∀ s', Moved (S :: wr) G s s' → s'.heap.SetOf (mixKind prog w) S (pAny ks) n → R (.ok (.ret .none)) s') →
      codeAny (model prog w) A (.builtin "set.update.loop" ⟨[.ref S, .ref I], []⟩) R s := by
  have nw : S ∉ wr := fun z => hS (W.sub _ z)
  have sub : ∀ b ∈ wr, b ∈ S :: wr := fun b z => List.mem_cons_of_mem _ z
  intro j
  induction j with
  | zero =>
    intro i s hj hi st hs hR
    obtain rfl : i = n := by omega
    refine codeAny_builtin F.entry_set_update_loop ?_
    rw [Around.under_plainId F.plain_set_update_loop _]
    show wpAny _ A.in1 (pyNext (.ref I) >>= _) _ _ s
    refine wpAny_bind (W.done s _ _ st fun s' mv => ?_)
    show wpAny _ A.in1 (ret Value.none) _ _ s'
    rw [List.take_of_length_le (Nat.le_of_eq hn)] at hs
    exact wpAny_pure (hR s' (mv.mono sub) (setOf_at hs fun o e => mv.heap S o nw e))
  | succ j ih =>
    intro i s hj hi st hs hR
    have lt : i < n := by omega
    refine codeAny_builtin F.entry_set_update_loop ?_
    rw [Around.under_plainId F.plain_set_update_loop _]
    show wpAny _ A.in1 (pyNext (.ref I) >>= _) _ _ s
    refine wpAny_bind (W.item i s _ _ lt st fun v s' pv st' mv => ?_)
    obtain ⟨k, hk, ik, sk⟩ := hv i v pv
    have hs' := setOf_at hs fun o e => mv.heap S o nw e
    show wpAny _ A.in1 (holding [v] (setAdd S v) >>= _) _ _ s'
    refine wpAny_bind (wpAny_holding ?_)
    unfold setAdd
    refine wpAny_holding (wpAny_bind ((mixKind prog w).pyHash (k := k) ik ?_))
    refine wpAny_setAddHashed_of (knd := mixKind prog w) (s := { s' with toks := s'.toks + 1 }) ik sk hs' (by omega) fun h' sb h2 => ?_
    have no : pAny (ks.take i) k = false := by
      cases q : pAny (ks.take i) k with
      | false => rfl
      | true =>
        obtain ⟨x, hx, e⟩ := List.any_eq_true.mp q
        rw [of_decide_eq_true e] at hx
        exact absurd hx (take_nd nd hk)
    have h3 : h'.SetOf (mixKind prog w) S (fun k => pAny (ks.take (i + 1)) k) (i + 1) := by
      have e1 : (if (pAny (ks.take i) k) = true then i else i + 1) = i + 1 := by rw [no]; rfl
      have e2 : (fun k' => pAny (ks.take i) k' || decide (k' = k)) = fun k' => pAny (ks.take (i + 1)) k' := by
        funext k'
        unfold pAny
        rw [List.take_add_one, hk, List.any_append]
        simp [eq_comm]
      rw [e1, e2] at h2
      exact h2
    refine wpAny_pure ⟨plainId_quiet F.plain_set_update_loop _, ih (i + 1) _ (by omega) lt (W.frame _ s' _ _ st' (Nat.le_succ _) fun b z o e => ?_) h3 fun s'' mv' h4 => ?_⟩
    · rw [sb.2 b fun z' : b = S => hS (z' ▸ z)]; exact e
    · refine hR s'' (Moved.trans W.gtrans ((mv.mono sub).then_heap (Nat.le_succ _) fun b o z e => ?_) mv') h4
      rw [sb.2 b fun z' : b = S => z (by rw [z']; exact List.mem_cons_self)]; exact e
end
section
variable {P : Program} {w : World} {A : Around} {E : Value → Shared → Prop} {s : Shared}
abbrev newSetO (w : World) : Obj := { cls := .type "set", dict := none, data := .set #[] 0 (.fresh 0 0 (!w.params.followText "set-order")) }
theorem newSetO_of {h : Heap} {a : Addr} (e : h.get? a = some (newSetO w)) : h.SetOf (mixKind P w) a (fun _ => false) 0 :=
  ⟨_, #[], 0, _, e, ⟨rfl, rfl, rfl⟩, rfl, (fun e he => by simp at he), (fun k => by simp), (by decide), (by rfl), rfl⟩
/-- set(xs), xs a tuple of keys that are apart -/
theorem call_setK {l : Addr} {its : Array Value} (ks : List Key) {Q : Value → Shared → Prop} (hh : A.handled = none) (hl : s.heap.IsTuple l its) (hn : ks.length = its.size) (nd : ks.Nodup) (hb : its.size + 1 < scanBound)
    (hv : ∀ (i : Nat) (v : Value), its[i]? = some v → ∃ k : Key, ks[i]? = some k ∧ (mixKind P w).is k v = true ∧ v.scannable = true)
    (h : ∀ (h' : Heap) (tk : Nat), h'.SetOf (mixKind P w) s.heap.objs.size (pAny ks) its.size → (∀ b o, s.heap.get? b = some o → h'.get? b = some o) → Q (.ref s.heap.objs.size) { s with heap := h', toks := tk }) :
    wpAny (model P w) A (call (.type "set") [.ref l]) Q E s := by
  obtain ⟨c, tl, hmro⟩ := F.called_set.mro
  have hmade := F.called_set.made
  have hsub := F.called_set.sub
  refine wpAny_call (codeAny_of_tree ?_)
  show wpAny _ _ (callAny (.type "set") _) _ _ _
  refine wpAny_pure ⟨Code.quiet_builtin _ (by decide +kernel), codeAny_builtin F.entry_type_call ?_⟩
  rw [Around.under_plain (weight_type_call_type "set" [.ref l] []) rfl]
  have h1 := F.called_set.notType
  have h2 := F.called_set.canCreate
  have hct := F.typeCall_set_1 (.ref l)
  repeat (any_goals (first | assumption | wp_step))
  refine codeAny_mono (code_set_led1 (.ref l) (E := E) (Q₁ := fun ob s1 => ob = .ref s.heap.objs.size ∧ s1 = { s with heap := s.heap.push (newSetO w) }) ⟨rfl, rfl⟩) fun r s1 hr => ?_
  cases r with
  | error e => exact hr
  | ok fl => cases fl with
    | ret ob =>
      obtain ⟨rfl, rfl⟩ := hr
      have g0 : (s.heap.push (newSetO w)).get? s.heap.objs.size = some (newSetO w) := Heap.get?_push_size _ rfl
      have ty : Shared.TypeIs { s with heap := s.heap.push (newSetO w) } (.ref s.heap.objs.size) "set" := ⟨_, g0, rfl⟩
      have hli := F.called_set.init.lookup
      have hbi := F.called_set.init.bind (.ref s.heap.objs.size)
      repeat (any_goals (first | assumption | wp_step))
      refine codeAny_mono (codeAny_call_builtin (R := wants (fun r s2 => r = .none ∧ ∃ h' tk, s2 = { s with heap := h', toks := tk } ∧ h'.SetOf (mixKind P w) s.heap.objs.size (pAny ks) its.size ∧
          (∀ b o, s.heap.get? b = some o → h'.get? b = some o)) E) F.called_set.init.plain F.entry_set_init (check_set_init_1 ty ?_)) fun r2 s2 hr2 => ?_
      · have lt : l < s.heap.objs.size := by
          obtain ⟨o, ho, _⟩ := hl
          exact Heap.lt_size ho
        have hh3 : A.in1.in1.in1.handled = none := by simp [hh]
        have apart : l ≠ (s.heap.push (newSetO w)).objs.size := by
          rw [Heap.size_push]
          exact Nat.ne_of_lt (Nat.lt_succ_of_lt lt)
        have notin : s.heap.objs.size ∉ [(s.heap.push (newSetO w)).objs.size, l] := by
          rw [Heap.size_push]
          simp only [List.mem_cons, List.not_mem_nil, or_false, not_or]
          exact ⟨Nat.ne_of_lt (Nat.lt_succ_self _), Nat.ne_of_gt lt⟩
        have start : ∀ o : Obj, ((s.heap.push (newSetO w)).push o).SetOf (mixKind P w) s.heap.objs.size (pAny (ks.take 0)) 0 := fun o => newSetO_of (Heap.get?_push_of_some _ g0)
        have fin : ∀ (o : Obj) (s' : Shared), Moved (s.heap.objs.size :: [(s.heap.push (newSetO w)).objs.size]) (fun a b => b = a) { s with heap := (s.heap.push (newSetO w)).push o } s' → s'.heap.SetOf (mixKind P w) s.heap.objs.size (pAny ks) its.size →
            ∃ h' tk, s' = { s with heap := h', toks := tk } ∧ h'.SetOf (mixKind P w) s.heap.objs.size (pAny ks) its.size ∧ ∀ b o, s.heap.get? b = some o → h'.get? b = some o := fun o s' mv hS => by
          obtain ⟨h', g', d', tk', os'⟩ := s'
          have eg : g' = s.gens := mv.gens
          have ed : d' = s.drawn := mv.drawn
          have eo : os' = s.os := mv.os
          subst eg ed eo
          refine ⟨h', tk', rfl, hS, fun b u e => mv.heap b u ?_ (Heap.get?_push_of_some _ (Heap.get?_push_of_some _ e))⟩
          have lb : b < s.heap.objs.size := Heap.lt_size e
          rw [Heap.size_push]
          simp only [List.mem_cons, List.not_mem_nil, or_false, not_or]
          exact ⟨Nat.ne_of_lt lb, Nat.ne_of_lt (Nat.lt_succ_of_lt lb)⟩
        obtain ⟨⟨oc, od, odt, osl⟩, hol, hcl, nl, hdl⟩ := hl
        simp only at hcl hdl
        subst hcl
        subst hdl
        have hol' := Heap.get?_push_of_some (newSetO w) hol
        have z1 := F.sub_tuple_set
        have z2 := F.sub_tuple_frozenset
        have z3 : (Value.type "tuple" == Value.type "dict") = false := by decide
        have hl1 : (s.heap.push (newSetO w)).IsTuple l its := ⟨_, hol', rfl, nl, rfl⟩
        unfold Builtin.«set.__init__» noKeywords Builtin.Frozenset.updateFrom
        generalize hPI : pyIter = PI
        wp_walk
        subst hPI
        refine wpAny_pyIter_tuple hl1 (wpAny_bind (wpAny_runValue ?_))
        refine set_fill ((Walks.tuple hh3 _ l apart its).toS) s.heap.objs.size notin ks hn nd hb hv (its.size - 0) 0 _ rfl (Nat.zero_le _) ⟨⟨_, Heap.get?_push_size _ rfl, rfl, rfl⟩, hl1.push _⟩ (start _) fun s' mv hS => ?_
        obtain ⟨h', tk', e, q1, q2⟩ := fin _ s' mv hS
        subst e
        show wpAny _ _ _ _ _ _
        refine wpAny_pure ?_
        show wpAny _ _ (ret Value.none) _ _ _
        exact wpAny_pure ⟨rfl, h', tk', rfl, q1, q2⟩
      · cases r2 with
        | error e => exact hr2
        | ok fl2 => cases fl2 with
          | ret r =>
            obtain ⟨rfl, h', tk, rfl, q1, q2⟩ := hr2
            repeat (any_goals (first | assumption | wp_step))
            exact h _ _ q1 q2
          | _ => exact hr2.elim
    | _ => exact hr.elim
end
end Dl
/-! Set comprehensions by data: what the set holds behind; len of sets of keys. -/
namespace Dl
open PySem L2 Evl
section
variable {P : Program} {w : World} {K : PySem.W.Frag} {τ : Type} {S : List M} {vs : List Nat}
theorem sc_run {Mc : SetMach P w K τ} {α : Type} {xs : List α} {f r : α → D} {p : α → Bool} {wi : TI} {g : TG} {tt : TT} {te : TE} (wk : WkB K wi S (xs.map f))
    (ht : ∀ a, a ∈ xs → ∃ S2, GtP K g vs ((wipeM S vs).map M.ro) (f a) S2 ∧ TpP K tt S2 (p a) ∧ (p a = true → EvP K te S2 (r a)))
    (J : Hp → List α → τ → Prop) (j0 : ∀ H0, J H0 [] Mc.t0) (jm : ∀ H0 H1 ys t, Ex H0 H1 → J H0 ys t → J H1 ys t) (jn : ∀ H0 pre a t, pre ++ [a] <+: xs → p a = false → J H0 pre t → J H0 (pre ++ [a]) t)
    (js : ∀ H0 H pre a t y, pre ++ [a] <+: xs → p a = true → Ex H0 H → Rp K H0 (r a) y → J H0 pre t → ∃ t', Mc.ok H t y t' ∧ J H0 (pre ++ [a]) t') :
    ∀ Pn pl G H0 H σ, Rs K Pn pl G H0 H σ S → ∀ Q : VK, (∀ D t H0' H', Gr G H0 H0' → Ex H H' → Rs K Pn pl G H0' H' σ S → H0' D = none → G D = none → Apart σ S D → H' D = some (Mc.O D t) → J H0' xs t → Q (.ref D) H') → tScM Mc wi g tt te vs σ H Q := fun Pn pl G H0 H σ Rr Q q =>
  wk Pn pl G H0 H σ Rr _ fun It H01 H1 g1 e1 R1 jk D hD => by
    obtain ⟨d0, dg, dap⟩ := R1.own_new hD
    have Ri : Rs K [] pl H1 H01 H1 (wipe σ vs) ((wipeM S vs).map M.ro) := (R1.nopin.wiped vs fun i _ => by simp).ro
    have noown : ∀ (i : Nat) (m : M) (l : Addr) {τ : L2.St} {A B C : Hp}, ((wipeM S vs).map M.ro)[i]? = some m → m.own = true → τ[i]? = some (some (V.ref l)) → A l = none → B l ≠ none → C l = none := fun i m l τ A B C h ho => by rw [ro_noown h] at ho; cases ho
    refine ⟨fun i m H' => m = xs.length - i ∧ i ≤ xs.length ∧ ∃ t H0', H' D = some (Mc.O D t) ∧ J H0' (xs.take i) t ∧ H0' D = none ∧ Gr H1 H01 H0' ∧ Rs K [] pl H1 H0' H' (wipe σ vs) ((wipeM S vs).map M.ro),
      ⟨xs.length, by simp, Nat.zero_le _, Mc.t0, H01, upd_same, by rw [List.take_zero]; exact j0 _, d0, Gr.refl _ _, Ri.fwd (Ex.refl _) (Ex.new hD) (Ri.e0.trans (Ex.new hD)) fun i m l h ho z k k2 => noown i m l h ho z k k2⟩, ?_⟩
    rintro i m H' ⟨rfl, hi, t, H0', hw, hj, hd0, g', R'⟩
    have src : Ex H1 H' := R'.eg
    by_cases hlt : i < xs.length
    · have hlt' : i < (xs.map f).length := by rw [List.length_map]; exact hlt
      have hda : (xs.map f)[i]? = some (f xs[i]) := by rw [List.getElem?_map, List.getElem?_eq_getElem hlt]; rfl
      have htk : xs.take (i + 1) = xs.take i ++ [xs[i]] := by rw [List.take_add_one, List.getElem?_eq_getElem hlt]; rfl
      have pfx : xs.take i ++ [xs[i]] <+: xs := by rw [← htk]; exact List.take_prefix _ _
      refine .inr ⟨jk.go i H' src hlt', fun H2 => ∃ t H0', H2 D = some (Mc.O D t) ∧ J H0' (xs.take (i + 1)) t ∧ H0' D = none ∧ Gr H1 H01 H0' ∧ Rs K [] pl H1 H0' H2 (wipe σ vs) ((wipeM S vs).map M.ro),
        fun H2 k => ⟨xs.length - (i + 1), by omega, rfl, hlt, k⟩, fun x H2 y => ?_⟩
      obtain ⟨S2, hg, htt, hte⟩ := ht xs[i] (List.getElem_mem hlt)
      have fin : ∀ (H02 H2 : Hp), Gr H1 H01 H02 → Gr H1 H0' H02 → H02 D = none → H2 D = some (Mc.O D t) → Rs K [] pl H1 H02 H2 (wipe σ vs) ((wipeM S vs).map M.ro) → Rp K H02 (f xs[i]) x → g x (wipe σ vs) H2 fun σ2 H2 => wipe σ2 vs = wipe σ vs ∧ tt σ2 H2 fun b H3 =>
          if b = true then te σ2 H3 fun y H4 => ∃ t t', H4 D = some (Mc.O D t) ∧ Mc.ok H4 t y t' ∧ ∃ t2 H0', upd H4 D (Mc.O D t') D = some (Mc.O D t2) ∧ J H0' (xs.take (i + 1)) t2 ∧ H0' D = none ∧ Gr H1 H01 H0' ∧ Rs K [] pl H1 H0' (upd H4 D (Mc.O D t')) (wipe σ vs) ((wipeM S vs).map M.ro)
          else ∃ t H0', H3 D = some (Mc.O D t) ∧ J H0' (xs.take (i + 1)) t ∧ H0' D = none ∧ Gr H1 H01 H0' ∧ Rs K [] pl H1 H0' H3 (wipe σ vs) ((wipeM S vs).map M.ro) := fun H02 H2 gA gB hd2 hw2 R2 px => by
        have R2G : Rs K [] pl (upd H1 D (Mc.O D t)) H02 H2 (wipe σ vs) ((wipeM S vs).map M.ro) := R2.addG hD hw2 fun j m' hj ho => by rw [ro_noown hj] at ho; cases ho
        refine hg.run [] pl _ H02 H2 (wipe σ vs) x (fun _ _ => by simp) R2G px _ fun σ2 R3 hσ => ?_
        have hw3 : wipe σ2 vs = wipe σ vs := by
          have e : wipe σ2 vs = wipe (wipe σ vs) vs := wipe_ext vs (by rw [R3.len, hg.len, List.length_map, wipeM_len, wipe_length, ← R1.len]) hσ
          rw [e]
          exact wipe_ext vs (wipe_length _ _) fun j hj => wipe_out hj
        have sub : ∀ {A B : Hp}, Gr (upd H1 D (Mc.O D t)) A B → Gr H1 A B := fun g => g.sub fun a k => by
          by_cases z : a = D
          · rw [z, upd_same]; exact fun z => nomatch z
          · rw [upd_ne z]; exact k
        have some_ : upd H1 D (Mc.O D t) D ≠ none := by rw [upd_same]; exact fun z => nomatch z
        refine ⟨hw3, htt [] pl _ H02 H2 σ2 R3 _ fun H03 H3 g3 e3 R4 => ?_⟩
        have hD3 : H3 D = some (Mc.O D t) := R4.eg D _ upd_same
        have hd3 : H03 D = none := g3.out some_ hd2
        cases hp : p xs[i] with
        | false =>
          rw [if_neg Bool.false_ne_true]
          refine ⟨t, H03, hD3, ?_, hd3, gA.trans (sub g3), R2.fwd g3.ex e3 R4.e0 fun j m' l h ho z k k2 => noown j m' l h ho z k k2⟩
          rw [htk]
          exact jn _ _ _ _ pfx hp (jm _ _ _ _ (gB.ex.trans g3.ex) hj)
        | true =>
          rw [if_pos rfl]
          refine hte hp [] pl _ H03 H3 σ2 R4 _ fun y H04 H4 g4 e4 R5 py => ?_
          have hD4 : H4 D = some (Mc.O D t) := R5.eg D _ upd_same
          have hd4 : H04 D = none := g4.out some_ hd3
          obtain ⟨t', ok, j'⟩ := js H04 H4 (xs.take i) xs[i] t y pfx hp R5.e0 py (jm _ _ _ _ ((gB.ex.trans g3.ex).trans g4.ex) hj)
          refine ⟨t, t', hD4, ok, t', H04, upd_same, by rw [htk]; exact j', hd4, (gA.trans (sub g3)).trans (sub g4), ?_⟩
          have R6 : Rs K [] pl H1 H04 H4 (wipe σ vs) ((wipeM S vs).map M.ro) := R2.fwd (g3.ex.trans g4.ex) (e3.trans e4) R5.e0 fun j m' l h ho z k k2 => noown j m' l h ho z k k2
          refine ⟨R6.len, fun a u ha => ?_, fun a u ha => ?_, fun j m' hj => ?_, R6.ap, R6.pin⟩
          · rw [upd_ne (ne_of_none ha hd4)]; exact R6.e0 a u ha
          · rw [upd_ne (ne_of_none ha hD)]; exact R6.eg a u ha
          · obtain ⟨ov, h1, h2⟩ := R6.sl j m' hj
            refine ⟨ov, h1, ?_⟩
            have no := ro_noown hj
            cases m' with
            | no => trivial
            | d x => exact h2
            | b x => exact h2
            | q ns => exact h2
            | o x => cases no
            | e φ => cases no
      rcases jk.yld i H' x H2 _ src hda y with ⟨e2, rp⟩ | ⟨T, es, us, hT, e2, e3, e4, rp⟩
      · subst e2
        exact fin H0' H2 g' (Gr.refl _ _) hd0 hw R' (Rp.mono g'.ex _ _ rp)
      · subst e2
        have nTD : D ≠ T := ne_of_none hw hT
        obtain ⟨gT, eT, RT⟩ := R'.lay (o := .tup us) hT
        refine fin _ _ (g'.trans gT) gT (by rw [upd_ne nTD]; exact hd0) (by rw [upd_ne nTD]; exact hw) RT ?_
        rw [e3, e4]
        exact ⟨T, us, rfl, upd_same, Rps.mono (g'.ex.trans gT.ex) _ _ rp⟩
    · have ei : i = xs.length := by omega
      subst ei
      rw [List.take_length] at hj
      refine .inl ⟨jk.stop _ H' src (by rw [List.length_map]; exact Nat.le_refl _), q D t H0' H' (g1.trans (g'.sub fun a k => ?_)) (e1.trans src) (R1.fwd g'.ex src R'.e0 fun j m' l h ho z k k2 => ?_) hd0 dg dap hw hj⟩
      · cases z : G a with
        | none => exact absurd z k
        | some o => rw [R1.eg a o z]; exact fun z => nomatch z
      · exact g'.out k2 k
/-! ### sets of keys -/
def rLenK (P : Program) (w : World) : List V → Hp → VK → Prop := fun xs H Q => ∃ (a : Addr) (S : Key → Bool) (n : Nat), xs = [.ref a] ∧ H a = some (SetK P w a S n) ∧ Q (.int (n : Nat)) H
end
section
variable {X : Cx}
theorem cr_lenK : CallR X (.builtin "len") (rLenK X.prog X.w) := by
  intro pins s σ H xs us Q I r h
  obtain ⟨a, S, n, rfl, ha, q⟩ := h
  obtain ⟨o, es, ep, t, ho, hex, hd, _, _, hb, hf, hn⟩ := setK_get I ha
  rw [Vals.ref1 r]
  subst hn
  refine PySem.call_len_set ho hex hd hf ?_ ⟨.int es.size, H, I.tok _, ⟨_, rfl⟩, q⟩
  unfold scanBound at hb
  omega
def rSetK (K : PySem.W.Frag) (P : Program) (w : World) : List V → Hp → VK → Prop := fun xs H Q => ∃ (l : Addr) (ks : List Key), xs = [.ref l] ∧ SqT K H l (ks.map kV) ∧ ks.Nodup ∧ ks.length ≤ 1000 ∧ ∀ a, H a = none → Q (.ref a) (upd H a (SetK P w a (pAny ks) ks.length))
theorem key_vals {ks : List Key} {us : List Value} (r : Vals (ks.map kV) us) : ∀ (i : Nat) (v : Value), us[i]? = some v → ∃ k : Key, ks[i]? = some k ∧ RelV (kV k) v := fun i v hv => by
  have hl := r.length
  rw [List.length_map] at hl
  have hi : i < ks.length := by rw [hl]; exact (List.getElem?_eq_some_iff.mp hv).1
  obtain ⟨u, hu, ru⟩ := r.get (show (ks.map kV)[i]? = some (kV ks[i]) by rw [List.getElem?_map, List.getElem?_eq_getElem hi]; rfl)
  rw [hv] at hu
  cases hu
  exact ⟨_, List.getElem?_eq_getElem hi, ru⟩
theorem cr_setK (hc : X.calm = true) : CallR X (.type "set") (rSetK X.K X.prog X.w) := by
  intro pins s σ H xs us Q I r h
  obtain ⟨l, ks, rfl, hl, nd, hz, q⟩ := h
  rw [Vals.ref1 r]
  obtain ⟨its, rv, p, _⟩ := I.tuple hl
  have hn : ks.length = its.toArray.size := by have := rv.length; rw [List.length_map] at this; simpa using this
  refine call_setK ks (I.ok.hd hc) (show s.heap.IsTuple l its.toArray from p) hn nd (by rw [← hn]; show ks.length + 1 < 4096; omega) (fun i v hv => ?_) fun h' tk hS hk => ?_
  · obtain ⟨k, e, rk⟩ := key_vals rv i v (by simpa using hv)
    exact ⟨k, e, kV_is rk, key_scan rk⟩
  · rw [← hn] at hS
    exact ⟨.ref _, upd H s.heap.objs.size (SetK X.prog X.w s.heap.objs.size (pAny ks) ks.length), I.laid (t' := tk) hk (Nat.le_refl _) (setK_new hS), rfl, q _ (I.hok.fresh (Nat.le_refl _))⟩
theorem kr_lenK {P : Program} {w : World} (hP : X.prog = P) (hw : X.w = w) : CallR X (.builtin "len") (rLenK P w) := by subst hP hw; exact cr_lenK
theorem kr_setK {K : PySem.W.Frag} {P : Program} {w : World} (hK : X.K = K) (hP : X.prog = P) (hw : X.w = w) (hc : X.calm = true) : CallR X (.type "set") (rSetK K P w) := by subst hK hP hw; exact cr_setK hc
end
section
variable {P : Program} {w : World} {K : PySem.W.Frag} {S : List M} {vs : List Nat} {ta : TE}
/-- len(set(xs)), xs a tuple of texts that are apart -/
theorem evp_lenSet {ns : List PySem.Str} (ha : EvB K ta S (.tup (ns.map D.str))) (nd : ns.Nodup) (hl : ns.length ≤ 1000) : EvP K (tCB (rLenK P w) (tCons (tCB (rSetK K P w) (tCons ta tNil)) tNil)) S (.int ns.length) := fun Pn pl G H0 H σ Rr Q q =>
  ha Pn pl G H0 H σ Rr _ fun v H01 H1 g1 e1 R1 p1 => by
    obtain ⟨a, us, rfl, h0, h1, h2⟩ := p1.tup R1.e0
    have e := h2.strs
    subst e
    refine ⟨a, ns.map Sum.inr, rfl, ?_, List.pairwise_map.mpr (nd.imp fun h z => h (Sum.inr.inj z)), by rw [List.length_map]; exact hl, fun b hb => ?_⟩
    · rw [List.map_map]
      exact st_of h1
    · obtain ⟨R2, n0, ng, ap, e2⟩ := R1.new_own (o := SetK P w b (pAny (ns.map Sum.inr)) (ns.map (Sum.inr : PySem.Str → Key)).length) hb
      refine ⟨b, _, _, rfl, upd_same, q _ H01 _ g1 (e1.trans e2) R2 ?_⟩
      rw [List.length_map]
      rfl
/-- len of a set comprehension of ints that are apart -/
theorem evp_lenSc {α : Type} {xs : List α} {f : α → D} {r : α → Int} {wi : TI} {g : TG} {te : TE} (wk : WkB K wi S (xs.map f)) (ht : ∀ a, a ∈ xs → ∃ S2, GtP K g vs ((wipeM S vs).map M.ro) (f a) S2 ∧ EvP K te S2 (.int (r a))) (nd : (xs.map r).Nodup) (hl : xs.length ≤ 1000) :
    EvP K (tCB (rLenK P w) (tCons (tScM (keyMach P w K) wi g tYes te vs) tNil)) S (.int xs.length) := fun Pn pl G H0 H σ Rr Q q => by
  show tScM (keyMach P w K) wi g tYes te vs σ H fun v H1 => rLenK P w [v] H1 Q
  refine sc_run (Mc := keyMach P w K) (xs := xs) (r := fun a => .int (r a)) (p := fun _ => true) wk (fun a ha => ?_) (fun _ ys ks => ks = ys.map fun a => Sum.inl (r a)) (fun _ => rfl) (fun _ _ _ _ _ h => h) (fun _ _ _ _ _ z => by cases z) (fun H0 H pre a t y pf _ _ hy ht => ?_) Pn pl G H0 H σ Rr _ fun D t H0' H' g' e' R' d0 dg dap hD ej => ?_
  · obtain ⟨S2, h1, h2⟩ := ht a ha
    exact ⟨S2, h1, tpp_yes, fun _ => h2⟩
  · subst ht
    obtain ⟨post, ep⟩ := pf
    have hlen : pre.length + 1 ≤ xs.length := by rw [← ep]; simp
    refine ⟨_, ⟨Sum.inl (r a), hy, by rw [List.length_map]; show pre.length + 1 < 4096; omega, rfl⟩, ?_⟩
    have no : pAny (pre.map fun a => (Sum.inl (r a) : Key)) (Sum.inl (r a)) = false := by
      cases z : pAny (pre.map fun a => (Sum.inl (r a) : Key)) (Sum.inl (r a)) with
      | false => rfl
      | true =>
        obtain ⟨k, hk, e⟩ := List.any_eq_true.mp z
        obtain ⟨b, hb, eb⟩ := List.mem_map.mp hk
        have e2 := of_decide_eq_true e
        rw [← eb] at e2
        have e3 : r b = r a := Sum.inl.inj e2
        rw [← ep, List.map_append, List.map_append] at nd
        have := (List.nodup_append.mp (List.nodup_append.mp nd).1).2.2 (r b) (List.mem_map_of_mem hb) (r a) (by simp)
        exact absurd e3 this
    rw [no, List.map_append]
    rfl
  · subst ej
    refine ⟨D, _, _, rfl, hD, q _ H0' H' g' e' R' ?_⟩
    rw [List.length_map]
    rfl
end
end Dl
/-! What the terms of gen.py name, again. -/
namespace Dl
open PySem L2 Evl PyProof.Rows
section
variable {X : Cx} {K : PySem.W.Frag} {P : Program} {w : World} {a b e e2 elt tg iter : Expr} {ta tb te : TE} {t : TA} {pos p tpos : Pos} {elts : List Expr} {kk : Nat}
theorem k_enK (hK : X.K = K) (hg : Gl X "enumerate") (hm : X.mg "enumerate" = none) (ha : PA X [e] t) (hs : starEach [e] X.env = [(false, eval e X.env)]) : PI X (.Tuple elts kk tpos) (.Call (.Name "enumerate" p) [e] [] pos) (iEnK K t) := by subst hK; exact pi_enK hg hm ha hs
theorem k_enC (hK : X.K = K) (hg : Gl X "enumerate") (hm : X.mg "enumerate" = none) (ha : PA X [e, e2] t) (hs : starEach [e, e2] X.env = (false, eval e X.env) :: starEach [e2] X.env) (hpl : (backTo pos (starEach [e2] X.env)).any (·.1) = false) :
    PI X (.Tuple elts kk tpos) (.Call (.Name "enumerate" p) [e, e2] [] pos) (iEnC K t) := by subst hK; exact pi_enC hg hm ha hs hpl
theorem k_zpK (hK : X.K = K) (hg : Gl X "zip") (hm : X.mg "zip" = none) (ha : PA X [e, e2] t) (hs : starEach [e, e2] X.env = (false, eval e X.env) :: starEach [e2] X.env) (hpl : (backTo pos (starEach [e2] X.env)).any (·.1) = false) :
    PI X (.Tuple elts kk tpos) (.Call (.Name "zip" p) [e, e2] [] pos) (iZpK K t) := by subst hK; exact pi_zpK hg hm ha hs hpl
theorem k_insg (ha : PE X a ta) (hb : PE X b tb) (hm : behindInMarks .In b = false) : PE X (.Compare a [.In] [b] pos) (tOp insg ta tb) := pe_cmpR or_insg ha hb hm
theorem k_ninsg (ha : PE X a ta) (hb : PE X b tb) (hm : behindInMarks .NotIn b = false) : PE X (.Compare a [.NotIn] [b] pos) (tOp ninsg ta tb) := pe_cmpR or_ninsg ha hb hm
theorem kt_insg (ha : PE X a ta) (hb : PE X b tb) (hm : behindInMarks .In b = false) : PT X (.Compare a [.In] [b] pos) (tTest (tOp insg ta tb)) := pt_cmpR or_insg ha hb hm
theorem kt_ninsg (ha : PE X a ta) (hb : PE X b tb) (hm : behindInMarks .NotIn b = false) : PT X (.Compare a [.NotIn] [b] pos) (tTest (tOp ninsg ta tb)) := pt_cmpR or_ninsg ha hb hm
theorem k_rep (ha : PE X a ta) (hb : PE X b tb) : PE X (.BinOp a .Mult b pos) (tOp repL ta tb) := pe_op or_rep ha hb
/-- a set comprehension of keys -/
theorem k_scK (hK : X.K = K) (hP : X.prog = P) (hw : X.w = w) (hu : X.A.units + 64 < cLine) {ifs : List Expr} {scope : Scope} {own : List (PySem.Str × Nat)} {wi : TI} {g : TG} {tt : TT} (hc : X.calm = true) (hN : X.N.Nodup) (hi : PI X tg iter wi) (ok : BlkOk X.N X.env.scope scope own)
    (hg : ∀ (s : Shared) (H : Hp) (C : Addr) (cl : List (PySem.Str × Addr)) (fp : List Addr), PG (X.blk s H scope (compEnvC scope cl C X.env) fp) tg g)
    (ht : ∀ (s : Shared) (H : Hp) (C : Addr) (cl : List (PySem.Str × Addr)) (fp : List Addr), PTs (X.blk s H scope (compEnvC scope cl C X.env) fp) ifs tt)
    (he : ∀ (s : Shared) (H : Hp) (C : Addr) (cl : List (PySem.Str × Addr)) (fp : List Addr), PE (X.blk s H scope (compEnvC scope cl C X.env) fp) elt te) (hs : ∀ x, foldedSetIterable iter X.env x = pure x) :
    PE X (.SetComp elt [⟨tg, iter, ifs, 0⟩] scope pos) (tScM (keyMach P w K) wi g tt te (own.map (·.2))) := by subst hK hP hw; exact pe_scM (keyMach X.prog X.w X.K) hc hu hN hi ok hg ht he hs
/-- sorted(d), a dict by texts -/
def rSortedDS : List V → Hp → VK → Prop := fun xs H Q => ∃ (a : Addr) (kvs : List (Key × V)) (ks : List PySem.Str), xs = [.ref a] ∧ Rd H a (.dK kvs) ∧ kvs.map (·.1) = ks.map Sum.inr ∧ ks.length < 64 ∧
    ∀ ys p, ys.Perm ks → sortedS ys = true → H p = none → Q (.ref p) (upd H p (.lst (ys.map V.str)))
theorem kr_sortDS (hc : X.calm = true) : CallR X (.builtin "sorted") rSortedDS := call_sortedD hc
def rSortedDI : List V → Hp → VK → Prop := fun xs H Q => ∃ (a : Addr) (kvs : List (Key × V)) (ks : List Int), xs = [.ref a] ∧ Rd H a (.dK kvs) ∧ kvs.map (·.1) = ks.map Sum.inl ∧ ks.length < 64 ∧
    ∀ (ys : List Int) (p : Addr), ys.Perm ks → ys.Pairwise (· ≤ ·) → H p = none → Q (.ref p) (upd H p (.lst (ys.map V.int)))
theorem kr_sortDI (hc : X.calm = true) : CallR X (.builtin "sorted") rSortedDI := call_sortedDI hc
end
section
variable {K : PySem.W.Frag} {S : List M} {ta tb te : TE} {d x : D}
theorem zip_fst {α β : Type} : ∀ {xs : List α} {ys : List β}, xs.length = ys.length → (xs.zip ys).map (·.1) = xs
  | [], _, _ => by simp
  | x :: xs, [], h => by cases h
  | x :: xs, y :: ys, h => by
    rw [List.zip_cons_cons, List.map_cons, zip_fst (by simpa using h)]
theorem rps_strs (H : Hp) : ∀ ns : List PySem.Str, Rps K H (ns.map D.str) (ns.map V.str)
  | [] => rfl
  | n :: ns => ⟨_, _, rfl, rfl, rps_strs H ns⟩
theorem evo_sortDS {R : D → List M → Prop} {ks : List PySem.Str} {xs : List D} (ha : EvB K ta S (.dk (ks.map Sum.inr) xs)) (hl : ks.length < 64) (r : ∀ ys : List PySem.Str, ys.Perm ks → R (.lst (ys.map D.str)) S) : EvO K (tCB rSortedDS (tCons ta tNil)) S R := fun Pn pl G H0 H σ Rr Q q =>
  ha Pn pl G H0 H σ Rr _ fun v H01 H1 g1 e1 R1 p1 => by
    obtain ⟨a, vs, rfl, h1, h2, h3⟩ := p1.dk R1.e0
    refine ⟨a, _, ks, rfl, .inl h1, zip_fst h2, hl, fun ys p pm _ hp => ?_⟩
    obtain ⟨R2, n0, ng, ap, e2⟩ := R1.new_own (o := .lst (ys.map V.str)) hp
    exact q _ S p H01 _ (r ys pm) g1 R2 n0 ng ap ⟨_, upd_same, rps_strs _ _⟩
/-- dict(xs), xs a list of pairs, the first ones keys that are apart -/
def keyP (p : Key × D) : D := .tup [keyD p.1, p.2]
theorem keyD_rp {H : Hp} {k : Key} {v : V} (h : Rp K H (keyD k) v) : v = kV k := by
  cases k with
  | inl i => exact h
  | inr s => exact h
theorem rps_dictK {H : Hp} : ∀ {ps : List (Key × D)} {vs : List V}, Rps K H (ps.map keyP) vs → ∃ (as : List Addr) (us : List V), vs = as.map V.ref ∧ Rps K H (ps.map (·.2)) us ∧ ∀ H', Ex H H' → Paired (fun (p : Addr) (kv : Key × V) => SqT K H' p [kV kv.1, kv.2]) as ((ps.map (·.1)).zip us)
  | [], vs, h => by
    have e : vs = [] := by unfold List.map Rps at h; exact h
    subst e
    exact ⟨[], [], rfl, rfl, fun _ _ => .nil⟩
  | p :: ps, vs, h => by
    obtain ⟨v, r, rfl, h2, h3⟩ := (show ∃ v r, vs = v :: r ∧ Rp K H (keyP p) v ∧ Rps K H (ps.map keyP) r by unfold List.map Rps at h; exact h)
    obtain ⟨as, us, e1, e2, e3⟩ := rps_dictK h3
    obtain ⟨a, ws, rfl, q1, q2⟩ := (show ∃ a ws, v = V.ref a ∧ H a = some (.tup ws) ∧ Rps K H [keyD p.1, p.2] ws by unfold keyP Rp at h2; exact h2)
    obtain ⟨x, r1, rfl, k1, k2⟩ := q2
    obtain ⟨y, r2, rfl, k3, k4⟩ := k2
    have e4 : r2 = [] := k4
    subst e4
    have e5 := keyD_rp k1
    subst e5
    exact ⟨a :: as, y :: us, by rw [e1]; rfl, ⟨y, us, rfl, k3, e2⟩, fun H' e => .cons (st_of (e _ _ q1)) (e3 H' e)⟩
theorem evo_dictK {R : D → List M → Prop} (ha : EvN K ta S fun d S1 => ∃ ps : List (Key × D), d = .lst (ps.map keyP) ∧ (ps.map (·.1)).Nodup ∧ R (.dk (ps.map (·.1)) (ps.map (·.2))) S1) : EvO K (tCB (rDictP K) (tCons ta tNil)) S R := fun Pn pl G H0 H σ Rr Q q =>
  ha Pn pl G H0 H σ Rr _ fun d S1 v H01 H1 ⟨ps, ed, nd, r⟩ g1 R1 p1 => by
    subst ed
    obtain ⟨a, vs, rfl, k1, k2⟩ := (show ∃ a vs, v = V.ref a ∧ H01 a = some (.lst vs) ∧ Rps K H01 (ps.map keyP) vs by unfold Rp at p1; exact p1)
    obtain ⟨as, us, rfl, k4, k3⟩ := rps_dictK k2
    have hl := k4.length
    rw [List.length_map] at hl
    refine ⟨a, as, _, rfl, sq_of (R1.e0 _ _ k1), k3 H1 R1.e0, fun p hp => ?_⟩
    have em : mergeK [] ((ps.map (·.1)).zip us) = (ps.map (·.1)).zip us := by
      rw [mergeK_nd, List.nil_append]
      rw [List.nil_append, zip_fst (by rw [List.length_map]; exact hl)]
      exact nd
    rw [em]
    obtain ⟨R2, n0, ng, ap, e2⟩ := R1.new_own (o := .dK ((ps.map (·.1)).zip us)) hp
    exact q _ S1 p H01 _ r g1 R2 n0 ng ap ⟨us, upd_same, by rw [List.length_map]; exact hl, k4⟩
end
end Dl
/-! Walks and slices over lists of things of a type. -/
namespace Dl
open PySem L2 Evl
theorem le_rt {a b : Nat} (h : Nat.ble a b = true) : a ≤ b := Nat.le_of_ble_eq_true h
section
variable {α β : Type} {f : α → D} {h : β → D}
theorem zpD_map : ∀ (xs : List α) (ys : List β), zpD (xs.map f) (ys.map h) = (xs.zip ys).map fun p => .tup [f p.1, h p.2]
  | [], ys => by simp [zpD]
  | x :: xs, [] => by simp [zpD]
  | x :: xs, y :: ys => by
    have := zpD_map xs ys
    unfold zpD at *
    rw [List.map_cons, List.map_cons, List.zip_cons_cons, List.map_cons, this, List.zip_cons_cons, List.map_cons]
theorem enC_map (c : Int) (xs : List α) : enC c (xs.map f) = xs.zipIdx.map fun p => .tup [.int (c + (p.2 : Nat)), f p.1] := by
  unfold enC
  apply List.ext_getElem?
  intro i
  rw [List.getElem?_mapIdx, List.getElem?_map, List.getElem?_map, List.getElem?_zipIdx]
  cases xs[i]? with
  | none => rfl
  | some a => simp
end
section
variable {K : PySem.W.Frag} {S : List M} {α β : Type} {f : α → D} {h : β → D} {xs : List α} {ys : List β} {te ta tb : TE} {x y : D}
theorem wkp_entM (e : EvP K te S (.tup (xs.map f))) : WkP K (iEnK K (tCons te tNil)) S (xs.zipIdx.map fun p => .tup [.int (p.2 : Nat), f p.1]) := by
  have := wkp_ent e
  rw [enC_map] at this
  simpa using this
theorem wkp_enlM (e : EvP K te S (.lst (xs.map f))) : WkP K (iEnK K (tCons te tNil)) S (xs.zipIdx.map fun p => .tup [.int (p.2 : Nat), f p.1]) := by
  have := wkp_enl e
  rw [enC_map] at this
  simpa using this
theorem wkb_enlM (e : EvB K te S (.lst (xs.map f))) : WkB K (iEnK K (tCons te tNil)) S (xs.zipIdx.map fun p => .tup [.int (p.2 : Nat), f p.1]) := by
  have := wkb_enl e
  rw [enC_map] at this
  simpa using this
theorem wkp_enct1M (e : EvP K te S (.tup (xs.map f))) : WkP K (iEnC K (tCons te (tCons (tC (.int 1)) tNil))) S (xs.zipIdx.map fun p => .tup [.int (1 + (p.2 : Nat)), f p.1]) := by
  have := wkp_enct (c := 1) e ⟨by decide, by decide⟩
  rwa [enC_map] at this
theorem wkp_encl1M (e : EvP K te S (.lst (xs.map f))) : WkP K (iEnC K (tCons te (tCons (tC (.int 1)) tNil))) S (xs.zipIdx.map fun p => .tup [.int (1 + (p.2 : Nat)), f p.1]) := by
  have := wkp_encl (c := 1) e ⟨by decide, by decide⟩
  rwa [enC_map] at this
/-- things that are walked in pairs -/
inductive SqM (g : α → D) (xs : List α) : D → Prop where
  | l : SqM g xs (.lst (xs.map g))
  | t : SqM g xs (.tup (xs.map g))
theorem SqM.seq (s : SqM f xs x) : ∃ k, seqD x = some (k, xs.map f) := by
  cases s
  · exact ⟨.l, rfl⟩
  · exact ⟨.t, rfl⟩
theorem wkb_sqM (e : EvB K te S x) (s : SqM f xs x) : WkB K (iSq K te) S (xs.map f) := by
  cases s
  · exact wkb_lst e
  · exact (wkp_tupb e).b
theorem wkb_zpM (e : EvB K ta S x) (e2 : EvB K tb S y) (s : SqM f xs x) (s2 : SqM h ys y) : WkB K (iZpK K (tCons ta (tCons tb tNil))) S ((xs.zip ys).map fun p => .tup [f p.1, h p.2]) := by
  obtain ⟨k, hk⟩ := s.seq
  obtain ⟨k2, hk2⟩ := s2.seq
  have := wkb_zp e e2 hk hk2
  rwa [zpD_map] at this
theorem wkp_zpM (e : EvP K ta S x) (e2 : EvP K tb S y) (s : SqM f xs x) (s2 : SqM h ys y) : WkP K (iZpK K (tCons ta (tCons tb tNil))) S ((xs.zip ys).map fun p => .tup [f p.1, h p.2]) := by
  obtain ⟨k, hk⟩ := s.seq
  obtain ⟨k2, hk2⟩ := s2.seq
  have := wkp_zp e e2 hk hk2
  rwa [zpD_map] at this
theorem wkp_rngM {n : Nat} (e : EvB K te S (.int n)) (hn : n ≤ 100000) : WkP K (iRng1 (tCons te tNil)) S ((List.range n).map fun i => .int (i : Nat)) := by
  have := wkp_rng1 e hn
  unfold rgD at this
  simpa using this
theorem wkp_rng2M {lo hi : Int} (e : EvB K ta S (.int lo)) (e2 : EvB K tb S (.int hi)) (hb : -100000 ≤ lo ∧ lo ≤ 100000 ∧ -100000 ≤ hi ∧ hi ≤ 100000) : WkP K (iRng2 (tCons ta (tCons tb tNil))) S ((List.range (hi - lo).toNat).map fun i => .int (lo + (i : Nat))) := wkp_rng2 e e2 hb
theorem wkp_rng1n {n : Nat} (e2 : EvB K tb S (.int ((n : Int) + 1))) (hb : n ≤ 50000) : WkP K (iRng2 (tCons (tC (.int 1)) (tCons tb tNil))) S ((List.range n).map fun i => .int (1 + (i : Nat))) := by
  have := wkp_rng2M (lo := 1) (hi := (n : Int) + 1) (EvP.b evp_int) e2 ⟨by omega, by omega, by omega, by omega⟩
  rwa [show ((n : Int) + 1 - 1).toNat = n by omega] at this
/-! slices -/
theorem cut_from (n : Nat) : cutD (xs.map f) (some (n : Int)) none = (xs.drop n).map f := by rw [cutD_from, List.map_drop]
theorem cut_to (n : Nat) : cutD (xs.map f) none (some (n : Int)) = (xs.take n).map f := by rw [cutD_to, List.map_take]
theorem evp_slt1 (e : EvP K te S (.tup (xs.map f))) : EvP K (tSl (slU K) te (tPart (tC (.int 1))) tNoPart) S (.tup ((xs.drop 1).map f)) := by
  have := evp_slt e.b (ptp_some (i := 1) evp_int) ptp_none
  rwa [show (some (1 : Int)) = some ((1 : Nat) : Int) from rfl, cut_from] at this
theorem evf_sll1 (e : EvB K te S (.lst (xs.map f))) : EvF K (tSl (slU K) te (tPart (tC (.int 1))) tNoPart) S (.lst ((xs.drop 1).map f)) := by
  have := evf_sll e (ptp_some (i := 1) evp_int) ptp_none
  rwa [show (some (1 : Int)) = some ((1 : Nat) : Int) from rfl, cut_from] at this
theorem evf_sll2to (e : EvB K te S (.lst (xs.map f))) : EvF K (tSl (slU K) te tNoPart (tPart (tC (.int 2)))) S (.lst ((xs.take 2).map f)) := by
  have := evf_sll e ptp_none (ptp_some (i := 2) evp_int)
  rwa [show (some (2 : Int)) = some ((2 : Nat) : Int) from rfl, cut_to] at this
theorem gt_vs {g : TG} {us vs : List Nat} {S2 : List M} {x : D} (h : GtP K g us S x S2) (e : us = vs) : GtP K g vs S x S2 := e ▸ h
theorem insOf_rd {m : M} {C : Addr} {ns : List PySem.Str} {ds : List D} {n : PySem.Str} (hm : m.rd (.ins C ns ds)) (hl : ns.length = ds.length) (hf : n ∉ ns) : m.insOf C n := by
  cases m with
  | no => exact hm.elim
  | e φ => exact hm.elim
  | q ns => exact hm.elim
  | d x => exact ⟨ns, ds, hm, hl, hf⟩
  | b x => exact ⟨ns, ds, hm, hl, hf⟩
  | o x => exact ⟨ns, ds, hm, hl, hf⟩
theorem sel_some {γ : Type} {φ : β → Prop} {g : β → D} {xs : List γ} {ds : List D} (h : Sel (fun _ o => ∃ b, φ b ∧ o = some (g b)) xs ds) : ∃ bs : List β, ds = bs.map g ∧ (∀ b ∈ bs, φ b) ∧ bs.length = xs.length := by
  induction h with
  | nil => exact ⟨[], rfl, fun b hb => (by cases hb), rfl⟩
  | skip _ h => obtain ⟨b, _, e⟩ := h; cases e
  | take _ h ih =>
    obtain ⟨b, hb, e⟩ := h
    cases e
    obtain ⟨bs, rfl, h2, h3⟩ := ih
    refine ⟨bs ++ [b], by rw [List.map_append]; rfl, fun c hc => ?_, by rw [List.length_append, List.length_append, h3]; rfl⟩
    rcases List.mem_append.mp hc with z | z
    · exact h2 c z
    · rw [List.mem_singleton] at z; rw [z]; exact hb
theorem ap_ar {ds : List D} {R : List Ar → List M → Prop} {tr : TA} (h : ApP K tr S ds) (r : R (ds.map Ar.d) S) : ArN K tr S R := fun Pn pl G H0 H σ Rr Q q =>
  h Pn pl G H0 H σ Rr _ fun vs H01 H1 g1 e1 R1 p1 => q _ S vs H01 H1 r g1 R1 (arels_d p1)
/-- f(pool, ..): the pool an own object of which as much is known behind as ahead -/
theorem evn_poolC {C : Ct} {φ : D → Prop} {i : Nat} {ds : List D} {tr : TA} {R : D → List M → Prop} (h0 : S[i]? = some (.e φ)) (ha : ApP K tr S ds) (hc : C (.e φ :: ds.map M.d) fun d So => R d (putBack (Ar.s i :: ds.map Ar.d) So S)) :
    EvN K (tCall (spD K C) [] E0 (tCons (tVar i) tr)) S R := by
  refine evn_call (arn_s h0 rfl (ap_ar ha ⟨?_, ?_⟩))
  · unfold arChk
    have es : slots (.s i :: ds.map Ar.d) = [i] := by
      show i :: slots (ds.map Ar.d) = _
      rw [slots_d]
    rw [es, Bool.and_eq_true, List.all_eq_true]
    refine ⟨fun a ha' => ?_, rfl⟩
    rcases List.mem_cons.mp ha' with e | ha'
    · subst e; simp [arOne, h0, M.own]
    · obtain ⟨d, _, rfl⟩ := List.mem_map.mp ha'
      rfl
  · have eA : (Ar.s i :: ds.map Ar.d).map (arM S) = .e φ :: ds.map M.d := by
      rw [List.map_cons, List.map_map]
      simp only [arM, h0]
      rfl
    rw [eA]
    exact hc
/-- a, b = (x, y) -/
theorem st_par {tz : TA} {Pn : List Nat} {i j : Nat} {P : Post} (hi : i ∉ Pn) (hj : j ∉ Pn) (e : ApN K tz S fun ds S1 => ∃ x y, ds = [x, y] ∧ P.nx ((S1.set i (.d x)).set j (.d y))) : StN K Pn (tPar i j tz) S P := fun pl G H0 H σ R E a b c d => e Pn pl G H0 H σ R _ fun ds S' vs H0' H' ⟨x, y, eds, r⟩ g R' p => by
  subst eds
  obtain ⟨v, r1, rfl, p1, p2⟩ := p
  obtain ⟨w, r2, rfl, p3, p4⟩ := p2
  have e4 : r2 = [] := p4
  subst e4
  exact ⟨v, w, rfl, a _ _ H0' H' r g ((R'.setd p1 hi).setd p3 hj)⟩
theorem app_n {tz : TA} {ds : List D} {R : List D → List M → Prop} (h : ApP K tz S ds) (r : R ds S) : ApN K tz S R := fun Pn pl G H0 H σ Rr Q q => h Pn pl G H0 H σ Rr _ fun vs H01 H1 g1 e1 R1 p1 => q ds S vs H01 H1 r g1 R1 p1
end
end Dl
namespace Lw
/-! Clauses, problems, rows: as data, and what the program reckons of them. -/
open PySem L2 Evl Dl
abbrev clD (c : List Int) : D := .tup (c.map D.int)
abbrev softD (s : List Int × Int) : D := .tup [clD s.1, .int s.2]
def LitOk (n : Nat) (l : Int) : Prop := l ≠ 0 ∧ l.natAbs ≤ n
structure ClOk (n : Nat) (c : List Int) : Prop where
  lit : ∀ l ∈ c, LitOk n l
  asc : c.Pairwise fun a b => a.natAbs < b.natAbs
def isCl (c : List Int) (n : Int) : Bool := (c.all fun l => !decide (l = 0) && decide ((l.natAbs : Int) ≤ n)) && ((c.zip (c.drop 1)).all fun p => decide ((p.1.natAbs : Int) < (p.2.natAbs : Int)))
theorem nd_nat_len : ∀ (n : Nat) (l : List Nat), l.Pairwise (· < ·) → (∀ x ∈ l, 1 ≤ x ∧ x ≤ n) → l.length ≤ n := fun n l hl hb => by
  have key : ∀ (l : List Nat) (k : Nat), l.Pairwise (· < ·) → (∀ x ∈ l, k < x ∧ x ≤ n) → l.length + k ≤ max n k := by
    intro l
    induction l with
    | nil => intro k _ _; simp; omega
    | cons a l ih =>
      intro k h1 h2
      rw [List.pairwise_cons] at h1
      have ha := h2 a (by simp)
      have := ih a h1.2 fun x hx => ⟨h1.1 x hx, (h2 x (List.mem_cons_of_mem _ hx)).2⟩
      rw [List.length_cons]
      omega
  have := key l 0 hl fun x hx => ⟨by have := (hb x hx).1; omega, (hb x hx).2⟩
  omega
theorem ClOk.len {n : Nat} {c : List Int} (h : ClOk n c) : c.length ≤ n := by
  have := nd_nat_len n (c.map Int.natAbs) (List.pairwise_map.mpr h.asc) fun x hx => by
    obtain ⟨l, hl, rfl⟩ := List.mem_map.mp hx
    have := h.lit l hl
    exact ⟨by have := this.1; omega, this.2⟩
  simpa using this
theorem asc_zip : ∀ {c : List Int}, (c.Pairwise fun a b => a.natAbs < b.natAbs) → ((c.zip (c.drop 1)).all fun p => decide ((p.1.natAbs : Int) < (p.2.natAbs : Int))) = true
  | [], _ => rfl
  | [a], _ => rfl
  | a :: b :: c, h => by
    have h1 := List.rel_of_pairwise_cons h (show b ∈ b :: c by simp)
    have h2 := asc_zip (List.Pairwise.of_cons h)
    simp only [List.drop_succ_cons, List.drop_zero, List.zip_cons_cons, List.all_cons, Bool.and_eq_true, decide_eq_true_eq] at *
    exact ⟨by omega, by simpa using h2⟩
theorem ClOk.is {n : Nat} {c : List Int} (h : ClOk n c) : isCl c n = true := by
  unfold isCl
  rw [asc_zip h.asc, Bool.and_true, List.all_eq_true]
  intro l hl
  have := h.lit l hl
  simp [this.1]
  exact this.2
theorem ClOk.mono {n m : Nat} {c : List Int} (h : ClOk n c) (k : n ≤ m) : ClOk m c := ⟨fun l hl => ⟨(h.lit l hl).1, Nat.le_trans (h.lit l hl).2 k⟩, h.asc⟩
/-! rows -/
structure Val (n : Nat) (v : List Int) : Prop where
  len : v.length = n
  bin : ∀ x ∈ v, x = 0 ∨ x = 1
abbrev b2i (b : Bool) : Int := if b then 1 else 0
def litB (l : Int) (v : List Int) : Bool := decide (v.getD (l.natAbs - 1) 0 = b2i (decide (0 < l)))
def holdsB (c : List Int) (v : List Int) : Bool := c.any fun l => litB l v
theorem at_lit {v : List Int} {l : Int} (h : LitOk v.length l) : atI (v.map D.int) ((l.natAbs : Int) - 1) = some (.int (v.getD (l.natAbs - 1) 0)) := by
  have h0 : 0 < l.natAbs := by have := h.1; omega
  have e : (l.natAbs : Int) - 1 = ((l.natAbs - 1 : Nat) : Int) := by omega
  have hl := h.2
  rw [e]
  refine atI_nat ?_
  rw [List.getElem?_map, List.getElem?_eq_getElem (show l.natAbs - 1 < v.length by omega), List.getD_eq_getElem?_getD, List.getElem?_eq_getElem (show l.natAbs - 1 < v.length by omega)]
  rfl
/-! problems -/
structure Pb where
  count : Nat
  hard : List (List Int)
  soft : List (List Int × Int)
structure PbOk (p : Pb) : Prop where
  cnt : p.count ≤ 300
  hard : ∀ c ∈ p.hard, ClOk p.count c
  soft : ∀ s ∈ p.soft, ClOk p.count s.1 ∧ 1 ≤ s.2 ∧ s.2 ≤ 1000000000
  hl : p.hard.length ≤ 300
  sl : p.soft.length ≤ 300
abbrev probN : List PySem.Str := ["count", "hard", "soft"]
abbrev probX (p : Pb) : List D := [.int p.count, .tup (p.hard.map clD), .tup (p.soft.map softD)]
abbrev probD (C : Addr) (p : Pb) : D := .ins C probN (probX p)
def price (p : Pb) (v : List Int) : Int := ((p.soft.filter fun s => !holdsB s.1 v).map fun s => s.2).sum
def unpaid (p : Pb) (v : List Int) : List Nat := (p.soft.zipIdx.filter fun q => !holdsB q.1.1 v).map fun q => q.2
/-- the first hard clause that does not hold -/
def brk (p : Pb) (v : List Int) : Option Nat := p.hard.findIdx? fun c => !holdsB c v
/-- a drawn problem, with bounds -/
structure PbB (most hards softs wt : Nat) (p : Pb) : Prop where
  c1 : 1 ≤ p.count
  cnt : p.count ≤ most
  hard : ∀ c ∈ p.hard, ClOk p.count c
  soft : ∀ s ∈ p.soft, ClOk p.count s.1 ∧ 1 ≤ s.2 ∧ s.2 ≤ wt
  hl : p.hard.length ≤ hards
  sl : p.soft.length ≤ softs
theorem PbB.ok {most hards softs wt : Nat} {p : Pb} (h : PbB most hards softs wt p) (h1 : most ≤ 300) (h2 : hards ≤ 300) (h3 : softs ≤ 300) (h4 : wt ≤ 1000000000) : PbOk p :=
  ⟨Nat.le_trans h.cnt h1, h.hard, fun s hs => ⟨(h.soft s hs).1, (h.soft s hs).2.1, by have := (h.soft s hs).2.2; omega⟩, Nat.le_trans h.hl h2, Nat.le_trans h.sl h3⟩
/-- all rows -/
def rows : Nat → List (List Int)
  | 0 => [[]]
  | n + 1 => (rows n).flatMap fun v => [v ++ [0], v ++ [1]]
theorem rows_len : ∀ n, (rows n).length = 2 ^ n
  | 0 => rfl
  | n + 1 => by
    have key : ∀ l : List (List Int), (l.flatMap fun v => [v ++ [0], v ++ [1]]).length = 2 * l.length := fun l => by
      induction l with
      | nil => rfl
      | cons a l ih => rw [List.flatMap_cons, List.length_append, ih]; simp; omega
    rw [rows, key, rows_len n, Nat.pow_succ]; omega
theorem rows_val : ∀ n v, v ∈ rows n → Val n v
  | 0, v, h => by
    rw [rows, List.mem_singleton] at h
    subst h
    exact ⟨rfl, fun x hx => by cases hx⟩
  | n + 1, v, h => by
    rw [rows, List.mem_flatMap] at h
    obtain ⟨u, hu, hv⟩ := h
    have U := rows_val n u hu
    have key : ∀ b : Int, (b = 0 ∨ b = 1) → Val (n + 1) (u ++ [b]) := fun b hb => ⟨by rw [List.length_append, U.len]; rfl, fun x hx => by
      rcases List.mem_append.mp hx with z | z
      · exact U.bin x z
      · rw [List.mem_singleton] at z; rw [z]; exact hb⟩
    rcases List.mem_cons.mp hv with z | z
    · rw [z]; exact key 0 (.inl rfl)
    · rw [List.mem_singleton] at z; rw [z]; exact key 1 (.inr rfl)
def goodB (hard : List (List Int)) (v : List Int) : Bool := hard.all fun c => holdsB c v
abbrev problemD (p : Pb) : D := .tup [.int p.count, .tup (p.hard.map clD), .tup (p.soft.map softD)]
theorem brk_none {p : Pb} {v : List Int} : brk p v = none ↔ goodB p.hard v = true := by
  unfold brk goodB
  rw [List.findIdx?_eq_none_iff, List.all_eq_true]
  exact ⟨fun h c hc => by have := h c hc; simpa using this, fun h c hc => by have := h c hc; simpa using this⟩
theorem brk_some {p : Pb} {v : List Int} {pre post : List (List Int)} {c : List Int} (e : p.hard = pre ++ c :: post) (h1 : ∀ x ∈ pre, holdsB x v = true) (h2 : holdsB c v = false) : brk p v = some pre.length := by
  unfold brk
  rw [e, List.findIdx?_append]
  have : pre.findIdx? (fun c => !holdsB c v) = none := List.findIdx?_eq_none_iff.mpr fun x hx => by rw [h1 x hx]; rfl
  rw [this, List.findIdx?_cons, h2]
  simp
def optI : Option Nat → D
  | none => .non
  | some i => .int (i : Nat)
theorem PbOk.lit {p : Pb} {v : List Int} (h : PbOk p) (hv : Val p.count v) : ∀ c ∈ p.hard, ∀ l ∈ c, LitOk v.length l := fun c hc l hl => by rw [hv.len]; exact (h.hard c hc).lit l hl
theorem PbOk.litS {p : Pb} {v : List Int} (h : PbOk p) (hv : Val p.count v) : ∀ s ∈ p.soft, ∀ l ∈ s.1, LitOk v.length l := fun s hs l hl => by rw [hv.len]; exact (h.soft s hs).1.lit l hl
theorem PbOk.len {p : Pb} (h : PbOk p) : ∀ c ∈ p.hard, c.length ≤ 1000 := fun c hc => by have := (h.hard c hc).len; have := h.cnt; omega
theorem PbOk.lenS {p : Pb} (h : PbOk p) : ∀ s ∈ p.soft, s.1.length ≤ 1000 := fun s hs => by have := (h.soft s hs).1.len; have := h.cnt; omega
/-- the first cheapest of the good rows -/
def BestOf (p : Pb) (rs : List (List Int)) : Option (List Int) → Prop
  | none => rs.filter (goodB p.hard) = []
  | some r => ∃ l1 l2, rs.filter (goodB p.hard) = l1 ++ r :: l2 ∧ (∀ x ∈ l1, price p r < price p x) ∧ ∀ x ∈ l2, price p r ≤ price p x
def optR : Option (List Int) → D
  | none => .non
  | some r => clD r
def optP (p : Pb) : Option (List Int) → D
  | none => .non
  | some r => .int (price p r)
theorem BestOf.skip {p : Pb} {rs : List (List Int)} {b : Option (List Int)} {r : List Int} (h : BestOf p rs b) (hr : goodB p.hard r = false) : BestOf p (rs ++ [r]) b := by
  have e : (rs ++ [r]).filter (goodB p.hard) = rs.filter (goodB p.hard) := by simp [List.filter_append, hr]
  cases b with
  | none => unfold BestOf at *; rw [e]; exact h
  | some r => unfold BestOf at *; rw [e]; exact h
theorem BestOf.take {p : Pb} {rs : List (List Int)} {b : Option (List Int)} {r : List Int} (h : BestOf p rs b) (hr : goodB p.hard r = true) (hb : ∀ q, b = some q → price p r < price p q) : BestOf p (rs ++ [r]) (some r) := by
  have e : (rs ++ [r]).filter (goodB p.hard) = rs.filter (goodB p.hard) ++ [r] := by simp [List.filter_append, hr]
  refine ⟨rs.filter (goodB p.hard), [], e, fun x hx => ?_, fun x hx => by cases hx⟩
  cases b with
  | none => unfold BestOf at h; rw [h] at hx; cases hx
  | some q =>
    obtain ⟨l1, l2, e1, k1, k2⟩ := h
    have := hb q rfl
    rw [e1] at hx
    rcases List.mem_append.mp hx with z | z
    · have := k1 x z; omega
    · rcases List.mem_cons.mp z with z | z
      · rw [z]; exact this
      · have := k2 x z; omega
theorem BestOf.stay {p : Pb} {rs : List (List Int)} {q r : List Int} (h : BestOf p rs (some q)) (hr : goodB p.hard r = true) (hb : price p q ≤ price p r) : BestOf p (rs ++ [r]) (some q) := by
  obtain ⟨l1, l2, e1, k1, k2⟩ := h
  refine ⟨l1, l2 ++ [r], by simp [List.filter_append, hr, e1], k1, fun x hx => ?_⟩
  rcases List.mem_append.mp hx with z | z
  · exact k2 x z
  · rw [List.mem_singleton] at z; rw [z]; exact hb
def brkAt (p : Pb) (v : List Int) (k : Int) : Bool := (decide ((0 : Int) ≤ k) && decide (k < (p.hard.length : Int))) && !holdsB (p.hard.getD k.toNat []) v
def secP (p : Pb) (ws : List Int) (v : List Int) : Int := (((p.soft.zip ws).filter fun q => !holdsB q.1.1 v).map fun q => q.2).sum
def fullV (p : Pb) (v : List Int) : List Int := v ++ (List.range p.soft.length).map fun i => b2i (decide (((i : Nat) : Int) ∈ (unpaid p v).map fun j => ((j : Nat) : Int)))
def baseOf (p : Pb) : List (List Int) := p.hard ++ p.soft.zipIdx.map fun q => q.1.1 ++ [(p.count : Int) + 1 + (q.2 : Nat)]
abbrev intsD (ns : List Int) : D := .lst (ns.map D.int)
open PySem L2 Evl PyProof.Rows Dl
/-! words -/
local macro_rules | `(tactic| walk_at "v") => `(tactic| first
  | with_reducible exact v_add | with_reducible exact v_sub | with_reducible exact v_lt | with_reducible exact v_le | with_reducible exact v_gt | with_reducible exact v_ge | with_reducible exact v_eqi | with_reducible exact v_nei
  | with_reducible exact v_sum | with_reducible exact v_any | with_reducible exact v_all | with_reducible exact v_lenl | with_reducible exact v_lent | with_reducible exact v_tupl | with_reducible exact v_tupt | with_reducible exact v_listl | with_reducible exact v_listt
  | ((with_reducible refine' v_min ?a ?b); (case a => assumption); (case b => assumption))
  | with_reducible exact v_mulR (by decide) (by decide) | with_reducible exact v_mod (by decide) | with_reducible exact v_mod (by assumption) | with_reducible exact v_fdvR (by assumption) (by assumption) | with_reducible exact v_powR (by decide) (by decide) (by decide)
  | with_reducible exact v_eqbl | with_reducible exact v_nebl | with_reducible exact v_intb
  | with_reducible exact v_in_strt | with_reducible exact v_nin_strt | with_reducible exact v_in_strl | with_reducible exact v_insg | with_reducible exact v_ninsg
  | ((with_reducible refine' v_eqs ?a ?b); (case a => walk_at "sok"); (case b => walk_at "sok"))
  | ((with_reducible refine' v_nes ?a ?b); (case a => walk_at "sok"); (case b => walk_at "sok"))
  | ((with_reducible refine' v_adds ?a); (case a => walk_at "sd"))
  | ((with_reducible refine' v_catt ?a); (case a => walk_at "sz"))
  | ((with_reducible refine' v_cat ?a); (case a => walk_at "sz"))
  | ((with_reducible refine' v_rep ?a ?b); (case a => walk_at "sd"); (case b => walk_at "sz"))
  | ((with_reducible refine' v_isi ?h ?k); (case h => exact rfl); (case k => exact rfl))
  | with_reducible exact v_sortI | with_reducible exact v_sortPm
  | ((with_reducible refine' v_ixt ?h); (case h => assumption))
  | ((with_reducible refine' v_ixl ?h); (case h => assumption))
  | ((with_reducible refine' v_ixt ?h); (case h => exact rfl))
  | ((with_reducible refine' v_ixl ?h); (case h => exact rfl))
  | with_reducible exact v_in_ints | with_reducible exact v_nin_ints | with_reducible exact v_in_intst | with_reducible exact v_nin_intst | with_reducible exact v_abs | with_reducible exact v_int | with_reducible exact v_is | with_reducible exact v_isn)
local macro_rules | `(tactic| walk_at "sok") => `(tactic| first | assumption | exact (by decide +kernel))
local macro_rules | `(tactic| walk_at "sd") => `(tactic| first | assumption | exact rd_toB (by walk_at "rd") | omega | exact trivial | exact (by decide) | (simp only [List.length_map, List.length_append, List.length_cons, List.length_nil] at *; omega) | solve_by_elim)
local macro_rules | `(tactic| walk_at "ct") => `(tactic| first
  | exact rfl
  | (refine' And.intro rfl ?cy; (case cy => walk_at "ct"))
  | (refine' And.intro ?cz ?cy; (case cz => walk_at "sd"); (case cy => walk_at "ct"))
  | (refine' Exists.intro _ ?cx; (case cx => walk_at "ct")))
local macro_rules | `(tactic| walk_at "ar") => `(tactic| first
  | with_reducible exact arp_nil
  | ((with_reducible refine' arp_p ?a ?k); (case a => walk_at "ev"); (case k => walk_at "ar"))
  | ((with_reducible refine' arp_b ?a ?r ?k); (case a => exact rfl); (case r => walk_at "rd"); (case k => walk_at "ar")))
local macro_rules | `(tactic| walk_at "gts") => `(tactic| first
  | exact gts_nil
  | ((refine' gts_cons ?g ?gs); (case g => walk_at "gt"); (case gs => walk_at "gts")))
local macro_rules | `(tactic| walk_at "gt") => `(tactic| first
  | exact gt_name
  | exact gt_pair
  | ((refine' gt_vs (gt_tup ?g ?n) ?e); (case g => walk_at "gts"); (case n => exact rfl); (case e => exact rfl)))
local macro_rules | `(tactic| walk_at "rd") => `(tactic| first | assumption | exact ro_rd (by assumption) | exact ro_rd (ro_rd (by assumption)) | exact rfl)
local macro_rules | `(tactic| walk_at "ev") => `(tactic| first
  | ((with_reducible refine' evp_var ?h); (case h => exact rfl))
  | ((with_reducible refine' evb_varo ?h); (case h => exact rfl))
  | ((with_reducible refine' evb_varb ?h); (case h => exact rfl))
  | ((with_reducible refine' evb_var ?h); (case h => exact rfl))
  | ((with_reducible refine' evb_rd ?a ?b); (case a => exact rfl); (case b => walk_at "rd"))
  | with_reducible exact evp_int | with_reducible exact evp_bl | with_reducible exact evp_str | with_reducible exact evp_non
  | ((with_reducible refine' EvP.b ?h); (case h => walk_at "ev"))
  | ((with_reducible refine' evp_call ?a ?o ?c); (case a => walk_at "ar"); (case o => exact rfl); (case c => walk_at "ct"))
  | ((with_reducible refine' evp_methd ?e ?f ?a ?o ?c); (case e => walk_at "ev"); (case f => exact (by decide +kernel)); (case a => walk_at "ar"); (case o => exact rfl); (case c => walk_at "ct"))
  | ((with_reducible refine' evp_meth ?e ?f ?a ?o ?c); (case e => exact rfl); (case f => first | exact ⟨_, _, rfl, rfl, by decide +kernel⟩ | exact insOf_rd (by walk_at "rd") rfl (by decide +kernel)); (case a => walk_at "ar"); (case o => exact rfl); (case c => walk_at "ct"))
  | ((with_reducible refine' evp_fld ?c ?n ?a ?l); (case a => walk_at "ev"); (case c => assumption); (case n => assumption); (case l => exact rfl))
  | ((with_reducible refine' evp_ix ?a ?b ?r); (case a => walk_at "ev"); (case b => walk_at "ev"); (case r => walk_at "v"))
  | ((with_reducible refine' evp_dgeti ?a ?b ?l); (case a => walk_at "ev"); (case b => walk_at "ev"); (case l => solve_by_elim))
  | ((with_reducible refine' evp_dgeti2 ?a ?b ?x ?l); (case a => walk_at "ev"); (case b => walk_at "ev"); (case x => walk_at "ev"); (case l => solve_by_elim))
  | ((with_reducible refine' evf_sortset ?a ?n ?s ?m); (case a => walk_at "ev"); (case n => solve_by_elim); (case s => solve_by_elim); (case m => solve_by_elim))
  | ((with_reducible refine' evp_chain ?a ?b ?r ?c ?s); (case a => walk_at "ev"); (case b => walk_at "ev"); (case r => walk_at "v"); (case c => (intro hb; walk_at "ev")); (case s => (intro hb; walk_at "v")))
  | ((with_reducible refine' evp_andV ?a ?b); (case a => walk_at "ev"); (case b => (intro hb; walk_at "ev")))
  | ((with_reducible refine' evp_in ?a ?b ?r); (case a => walk_at "ev"); (case b => walk_at "ev"); (case r => walk_at "v"))
  | ((with_reducible refine' evp_dini ?a ?b); (case a => walk_at "ev"); (case b => walk_at "ev"))
  | ((with_reducible refine' evp_nin ?a ?b ?r); (case a => walk_at "ev"); (case b => walk_at "ev"); (case r => walk_at "v"))
  | ((with_reducible refine' evp_op ?a ?b ?r); (case a => walk_at "ev"); (case b => walk_at "ev"); (case r => walk_at "v"))
  | ((with_reducible refine' evp_then ?a ?r); (case a => walk_at "ev"); (case r => walk_at "v"))
  | ((with_reducible refine' evp_cb ?a ?r); (case a => walk_at "ev"); (case r => walk_at "v"))
  | ((with_reducible refine' evf_cb ?a ?r); (case a => walk_at "ev"); (case r => walk_at "v"))
  | ((with_reducible refine' evp_slt1 ?h); (case h => walk_at "ev"))
  | ((with_reducible refine' evf_sll1 ?h); (case h => walk_at "ev"))
  | ((with_reducible refine' evf_sll2to ?h); (case h => walk_at "ev"))
  | ((with_reducible refine' evf_op ?a ?b ?r); (case a => walk_at "ev"); (case b => walk_at "ev"); (case r => walk_at "v"))
  | ((with_reducible refine' EvF.p ?h); (case h => walk_at "ev"))
  | ((with_reducible refine' evf_lcA ?w ?l ?t); (case w => walk_at "wk"); (case l => walk_at "sz"); (case t => (intro a ha; refine' ⟨_, ?gx, ?y⟩; (case gx => walk_at "gt"); (case y => walk_at "ev"))))
  | ((with_reducible refine' evf_lc ?w ?l ?t); (case w => walk_at "wk"); (case l => walk_at "sz"); (case t => (intro a ha; refine' ⟨_, ?gx, ?x, fun hp => ?y⟩; (case gx => walk_at "gt"); (case x => walk_at "ev"); (case y => walk_at "ev"))))
  | ((with_reducible refine' tpp_B ?h); (case h => walk_at "ev"))
  | ((with_reducible refine' tpp_test ?h); (case h => walk_at "ev"))
  | ((with_reducible refine' tpp_not ?h); (case h => walk_at "ev"))
  | ((with_reducible refine' tpp_and ?a ?b); (case a => walk_at "ev"); (case b => (intro hb; walk_at "ev")))
  | ((with_reducible refine' tpp_or ?a ?b); (case a => walk_at "ev"); (case b => (intro hb; walk_at "ev")))
  | ((with_reducible refine' tpp_tr ?a ?b); (case a => walk_at "ev"); (case b => exact rfl))
  | with_reducible exact evp_ty
  | ((with_reducible refine' evp_cb2 ?a ?b ?r); (case a => walk_at "ev"); (case b => walk_at "ev"); (case r => walk_at "v"))
  | ((with_reducible refine' evp_orV ?a ?b); (case a => walk_at "ev"); (case b => (intro hb; walk_at "ev")))
  | ((with_reducible refine' evp_notV ?a); (case a => walk_at "ev"))
  | with_reducible exact app_nil
  | ((with_reducible refine' app_cons ?a ?b); (case a => walk_at "ev"); (case b => walk_at "ev"))
  | ((with_reducible refine' evp_tup ?a ?b); (case a => walk_at "ev"); (case b => first | exact (by decide) | exact (by simp)))
  | ((with_reducible refine' evf_lst ?a ?b); (case a => walk_at "ev"); (case b => first | exact (by decide) | exact (by simp)))
  | with_reducible exact evf_dnewK)
local macro_rules | `(tactic| walk_at "wk") => `(tactic| first
  | ((with_reducible refine' wkp_entM ?h); (case h => walk_at "ev"))
  | ((with_reducible refine' wkp_enlM ?h); (case h => walk_at "ev"))
  | ((with_reducible refine' wkb_enlM ?h); (case h => walk_at "ev"))
  | ((with_reducible refine' wkp_enct1M ?h); (case h => walk_at "ev"))
  | ((with_reducible refine' wkp_encl1M ?h); (case h => walk_at "ev"))
  | ((with_reducible refine' wkp_rngM ?h ?n); (case h => walk_at "ev"); (case n => walk_at "sd"))
  | ((with_reducible refine' wkp_rng2M ?h ?g ?n); (case h => walk_at "ev"); (case g => walk_at "ev"); (case n => walk_at "sd"))
  | ((with_reducible refine' wkp_zpM ?h ?g ?x ?y); (case h => walk_at "ev"); (case g => walk_at "ev"); (case x => first | exact .l | exact .t); (case y => first | exact .l | exact .t))
  | ((with_reducible refine' wkb_zpM ?h ?g ?x ?y); (case h => walk_at "ev"); (case g => walk_at "ev"); (case x => first | exact .l | exact .t); (case y => first | exact .l | exact .t))
  | ((with_reducible refine' wkp_tup ?h); (case h => walk_at "ev"))
  | ((with_reducible refine' wkp_lst ?h); (case h => walk_at "ev"))
  | ((with_reducible refine' wkb_lst ?h); (case h => walk_at "ev"))
  | ((with_reducible refine' wkp_tupb ?h); (case h => walk_at "ev"))
  | ((with_reducible refine' WkP.b ?h); (case h => walk_at "wk")))
local macro_rules | `(tactic| walk_at "sz") => `(tactic| first | assumption | omega | (simp only [List.length_map, List.length_append, List.length_cons, List.length_nil]; omega))
def top (i : Nat) : Stmt := PySem.Challenge.pw_coresprice_k94_whole_prices_of_rows_by_a.main.body.getD i (.Pass ⟨0, 0, 0, 0⟩)
structure Txt (K : PySem.W.Frag) (mg : PySem.Str → Option Value) (CProblem CModel CProgram : Addr) : Prop where
  cl_Problem : Cls K CProblem
  f_Problem_count : NoAttr K CProblem "count"
  f_Problem_hard : NoAttr K CProblem "hard"
  f_Problem_soft : NoAttr K CProblem "soft"
  cl_Model : Cls K CModel
  f_Model_names : NoAttr K CModel "names"
  f_Model_rules : NoAttr K CModel "rules"
  f_Model_costs : NoAttr K CModel "costs"
  cl_Program : Cls K CProgram
  f_Program_count : NoAttr K CProgram "count"
  f_Program_rows : NoAttr K CProgram "rows"
  f_Program_costs : NoAttr K CProgram "costs"
  n_sum : mg "sum" = none
  n_any : mg "any" = none
  n_all : mg "all" = none
  n_min : mg "min" = none
  n_max : mg "max" = none
  n_enumerate : mg "enumerate" = none
  n_list : mg "list" = none
  n_tuple : mg "tuple" = none
  n_sorted : mg "sorted" = none
  n_len : mg "len" = none
  n_range : mg "range" = none
  n_dict : mg "dict" = none
  n_set : mg "set" = none
  n_int : mg "int" = none
  n_isinstance : mg "isinstance" = none
  n_str : mg "str" = none
  n_bool : mg "bool" = none
  n_zip : mg "zip" = none
  n_abs : mg "abs" = none
  g_MOST_COUNT : ∃ t, mg "MOST_COUNT" = some (.int 300 t)
  g_MOST_HARD : ∃ t, mg "MOST_HARD" = some (.int 3000 t)
  g_MOST_SOFT : ∃ t, mg "MOST_SOFT" = some (.int 300 t)
  g_MOST_WEIGHT : ∃ t, mg "MOST_WEIGHT" = some (.int 1000000000 t)
  g_MOST_NAMES : ∃ t, mg "MOST_NAMES" = some (.int 60 t)
  g_MOST_ITEMS : ∃ t, mg "MOST_ITEMS" = some (.int 40 t)
  g_MOST_NUMBER : ∃ t, mg "MOST_NUMBER" = some (.int 1000000 t)

section
variable {P : Program} {w : World} {K : PySem.W.Frag} {mg : PySem.Str → Option Value} {base : Heap} {CProblem CModel CProgram : Addr}
abbrev s_is_clause : Stmt := top 7
theorem sc_is_clause : FnScope ["clause", "count", "literal", "one", "two"] ["clause", "count"] (defScope s_is_clause) := ⟨rfl, rfl, rfl, by decide +kernel, rfl, by decide +kernel, by decide +kernel⟩
def ct_is_clause : Ct := fun S R => ∃ (c : List Int) (n : Int), S = [.d (clD c), .d (.int n)] ∧ c.length ≤ 1000 ∧ R (.bl (isCl c n)) [.no, .no]
theorem c_is_clause (F : FunAt K mg "is_clause" s_is_clause ["clause", "count"]) (T : Txt K mg CProblem CModel CProgram)
    : Cal P w K mg base "is_clause" 1 ["clause", "count"] (spD K (ct_is_clause)) := by
  refine okC F sc_is_clause (fun S R h => ?_) fun f cdv A outer s H E hr => ?_
  · obtain ⟨c, n, rfl, hl, hR⟩ := h; rfl
  have hu1 := hu1_of hr; have hu64 := hu64_of hr; have hu65 := hu65_of hr
  refine ⟨_, (by exact (pss_cons (by exact (ps_if (by exact (pt_not (by exact (k_tr (K := K) rfl (by exact (k_callB (kr_all (K := K) rfl rfl) (by rfl) T.n_all (by decide +kernel) (by exact (pa_cons (by exact (pe_lc (own := [("literal", 2)]) rfl sc_is_clause.nd (by exact (k_sq (K := K) rfl (by exact (pv 0)))) (blkOk_by (own := [("literal", 2)]) (by kernel_rfl)) (by intros; exact (by exact (pg_name (i := 2) sc_is_clause.nd rfl (Or.inl rfl)))) (by intros; exact pts_nil) (by intros; exact (by exact (pe_and (by exact (k_ne (K := K) rfl hu64 (by exact (pv 2)) (by exact pe_int))) (pe_one (by exact (pe_cmpR op_le (by exact (k_callB cr_absI (by rfl) T.n_abs (by decide +kernel) (by exact (pa_cons (by exact (pv 2)) pa_nil (by rfl))) (by decide) (by decide) (by rfl) (by rfl))) (by exact (pv 1)) (nomark _))))))) (by intro _; rfl))) pa_nil (by rfl))) (by decide) (by decide) (by rfl) (by rfl))) (fun _ => rfl))))) (by exact (pss_one (by exact (ps_ret (by exact pe_bl))))) pss_nil))
      (by exact (pss_one (by exact (ps_ret (by exact (k_callB (kr_all (K := K) rfl rfl) (by rfl) T.n_all (by decide +kernel) (by exact (pa_cons (by exact (pe_lc (own := [("one", 3), ("two", 4)]) rfl sc_is_clause.nd (by exact (k_zpK (K := K) rfl (by rfl) T.n_zip (by exact (pa_cons (by exact (pv 0)) (by exact (pa_cons (by exact (k_slice (K := K) rfl (by exact (pv 0)) (by exact (po_some (by exact pe_int))) po_none)) pa_nil (by rfl))) (by rfl))) (by rfl) (by rfl))) (blkOk_by (own := [("one", 3), ("two", 4)]) (by kernel_rfl)) (by intros; exact (by exact (k_tup (K := K) (n := 2) rfl rfl (by exact (pgs_cons (by exact (pg_name (i := 3) sc_is_clause.nd rfl (Or.inl rfl))) (by exact (pgs_cons (by exact (pg_name (i := 4) sc_is_clause.nd rfl (Or.inl rfl))) pgs_nil)))) (by rfl) (by rfl)))) (by intros; exact pts_nil) (by intros; exact (by exact (pe_cmpR op_lt (by exact (k_callB cr_absI (by rfl) T.n_abs (by decide +kernel) (by exact (pa_cons (by exact (pv 3)) pa_nil (by rfl))) (by decide) (by decide) (by rfl) (by rfl))) (by exact (k_callB cr_absI (by rfl) T.n_abs (by decide +kernel) (by exact (pa_cons (by exact (pv 4)) pa_nil (by rfl))) (by decide) (by decide) (by rfl) (by rfl))) (nomark _)))) (by intro _; rfl))) pa_nil (by rfl))) (by decide) (by decide) (by rfl) (by rfl))))))))), fun S R h => ?_⟩
  clear hu1 hu64 hu65 hr F T
  obtain ⟨c, n, rfl, hl, hR⟩ := h
  refine ⟨[], by decide, fun i hi => (by cases hi), ?_⟩
  refine st_imp (show slot0 _ [M.d (clD c), .d (.int n)] = [M.d (clD c), .d (.int n), .no, .no, .no] from rfl) ?_
  have hl2 : c.length ≤ 50000 := by omega
  have hl3 : (c.zip (c.drop 1)).length ≤ 50000 := by rw [List.length_zip]; omega
  refine' st_seq (st_ifP (b := !(c.all fun l => !decide (l = 0) && decide ((l.natAbs : Int) ≤ n))) ?u1 ?u2 ?u3)
  case u1 =>
    refine' tpp_not (tpp_tr (d := .bl _) ?v1 rfl)
    case v1 => walk_at "ev"
  case u2 =>
    intro hb
    refine' st_retP (d := .bl false) (by walk_at "ev") ⟨le_rt rfl, ?v2⟩
    case v2 =>
      rw [Bool.not_eq_true'] at hb
      unfold isCl at hR
      rw [hb] at hR
      exact hR
  case u3 =>
    intro hb
    refine' st_nil (st_retP (d := .bl ((c.zip (c.drop 1)).all fun p => decide ((p.1.natAbs : Int) < (p.2.natAbs : Int)))) ?v3 ⟨le_rt rfl, ?v4⟩)
    case v3 => walk_at "ev"
    case v4 =>
      rw [Bool.not_eq_false'] at hb
      unfold isCl at hR
      rw [hb, Bool.true_and] at hR
      exact hR
end
open PySem L2 Evl PyProof.Rows Dl

section
variable {P : Program} {w : World} {K : PySem.W.Frag} {mg : PySem.Str → Option Value} {base : Heap} {CProblem CModel CProgram : Addr}
abbrev s_is_true : Stmt := top 8
theorem sc_is_true : FnScope ["literal", "values"] ["literal", "values"] (defScope s_is_true) := ⟨rfl, rfl, rfl, by decide +kernel, rfl, by decide +kernel, by decide +kernel⟩
def ct_is_true : Ct := fun S R => ∃ (l : Int) (v : List Int), S = [.d (.int l), .d (clD v)] ∧ LitOk v.length l ∧ R (.bl (litB l v)) [.no, .no]
theorem c_is_true (F : FunAt K mg "is_true" s_is_true ["literal", "values"]) (T : Txt K mg CProblem CModel CProgram)
    : Cal P w K mg base "is_true" 1 ["literal", "values"] (spD K (ct_is_true)) := by
  refine okC F sc_is_true (fun S R h => ?_) fun f cdv A outer s H E hr => ?_
  · obtain ⟨l, v, rfl, hl, hR⟩ := h; rfl
  have hu1 := hu1_of hr; have hu64 := hu64_of hr; have hu65 := hu65_of hr
  refine ⟨_, (by exact (pss_one (by exact (ps_ret (by exact (k_eq (K := K) rfl hu64 (by exact (k_sub (K := K) rfl hu1 (by exact (pv 1)) (by exact (pe_op op_sub (by exact (k_callB cr_absI (by rfl) T.n_abs (by decide +kernel) (by exact (pa_cons (by exact (pv 0)) pa_nil (by rfl))) (by decide) (by decide) (by rfl) (by rfl))) (by exact pe_int))) (fun _ _ => rfl) (fun _ _ => rfl))) (by exact (k_callTy cr_intU (by rfl) T.n_int (by decide +kernel) (by exact (pa_cons (by exact (pe_cmpR op_gt (by exact (pv 0)) (by exact pe_int) (nomark _))) pa_nil (by rfl))) (by decide) (by decide) (by rfl) (by rfl))))))))), fun S R h => ?_⟩
  clear hu1 hu64 hu65 hr F T
  obtain ⟨l, v, rfl, hl, hR⟩ := h
  refine ⟨[], by decide, fun i hi => (by cases hi), ?_⟩
  refine st_imp (show slot0 _ [M.d (.int l), .d (clD v)] = [M.d (.int l), .d (clD v)] from rfl) ?_
  have hat := at_lit hl
  refine' st_retP (d := .bl (litB l v)) ?u1 ⟨le_rt rfl, hR⟩
  case u1 =>
    unfold litB
    walk_at "ev"
abbrev s_holds : Stmt := top 9
theorem sc_holds : FnScope ["clause", "values", "literal"] ["clause", "values"] (defScope s_holds) := ⟨rfl, rfl, rfl, by decide +kernel, rfl, by decide +kernel, by decide +kernel⟩
def ct_holds : Ct := fun S R => ∃ (c v : List Int), S = [.d (clD c), .d (clD v)] ∧ (∀ l ∈ c, LitOk v.length l) ∧ c.length ≤ 1000 ∧ R (.bl (holdsB c v)) [.no, .no]
theorem c_holds (F : FunAt K mg "holds" s_holds ["clause", "values"]) (T : Txt K mg CProblem CModel CProgram)
    (c_is_true : Cal P w K mg base "is_true" 1 ["literal", "values"] (spD K (ct_is_true)))
    : Cal P w K mg base "holds" 2 ["clause", "values"] (spD K (ct_holds)) := by
  refine okC F sc_holds (fun S R h => ?_) fun f cdv A outer s H E hr => ?_
  · obtain ⟨c, v, rfl, hc, hl, hR⟩ := h; rfl
  have hu1 := hu1_of hr; have hu64 := hu64_of hr; have hu65 := hu65_of hr
  refine ⟨_, (by exact (pss_one (by exact (ps_ret (by exact (k_callB (kr_any (K := K) rfl rfl) (by rfl) T.n_any (by decide +kernel) (by exact (pa_cons (by exact (pe_lc (own := [("literal", 2)]) rfl sc_holds.nd (by exact (k_sq (K := K) rfl (by exact (pv 0)))) (blkOk_by (own := [("literal", 2)]) (by kernel_rfl)) (by intros; exact (by exact (pg_name (i := 2) sc_holds.nd rfl (Or.inl rfl)))) (by intros; exact pts_nil) (by intros; exact (by exact (pe_cal c_is_true (hr.mono (by first | decide | omega)) (by rfl) (by exact (pa_cons (by exact (pv 2)) (by exact (pa_cons (by exact (pv 1)) pa_nil (by rfl))) (by rfl)))))) (by intro _; rfl))) pa_nil (by rfl))) (by decide) (by decide) (by rfl) (by rfl))))))), fun S R h => ?_⟩
  clear hu1 hu64 hu65 hr F T
  obtain ⟨c, v, rfl, hc, hl, hR⟩ := h
  refine ⟨[], by decide, fun i hi => (by cases hi), ?_⟩
  refine st_imp (show slot0 _ [M.d (clD c), .d (clD v)] = [M.d (clD c), .d (clD v), .no] from rfl) ?_
  have hl2 : c.length ≤ 50000 := by omega
  refine' st_retP (d := .bl (holdsB c v)) ?u1 ⟨le_rt rfl, hR⟩
  case u1 =>
    unfold holdsB
    walk_at "ev"
abbrev s_are_values : Stmt := top 10
theorem sc_are_values : FnScope ["values", "count", "value"] ["values", "count"] (defScope s_are_values) := ⟨rfl, rfl, rfl, by decide +kernel, rfl, by decide +kernel, by decide +kernel⟩
def ct_are_values : Ct := fun S R => ∃ (v : List Int) (n : Nat), S = [.d (clD v), .d (.int n)] ∧ Val n v ∧ v.length ≤ 1000 ∧ R (.bl true) [.no, .no]
theorem c_are_values (F : FunAt K mg "are_values" s_are_values ["values", "count"]) (T : Txt K mg CProblem CModel CProgram)
    : Cal P w K mg base "are_values" 1 ["values", "count"] (spD K (ct_are_values)) := by
  refine okC F sc_are_values (fun S R h => ?_) fun f cdv A outer s H E hr => ?_
  · obtain ⟨v, n, rfl, hv, hl, hR⟩ := h; rfl
  have hu1 := hu1_of hr; have hu64 := hu64_of hr; have hu65 := hu65_of hr
  refine ⟨_, (by exact (pss_one (by exact (ps_ret (by exact (pe_and (by exact (k_eq (K := K) rfl hu64 (by exact (k_callB (kr_len (K := K) rfl) (by rfl) T.n_len (by decide +kernel) (by exact (pa_cons (by exact (pv 0)) pa_nil (by rfl))) (by decide) (by decide) (by rfl) (by rfl))) (by exact (pv 1)))) (pe_one (by exact (k_callB (kr_all (K := K) rfl rfl) (by rfl) T.n_all (by decide +kernel) (by exact (pa_cons (by exact (pe_lc (own := [("value", 2)]) rfl sc_are_values.nd (by exact (k_sq (K := K) rfl (by exact (pv 0)))) (blkOk_by (own := [("value", 2)]) (by kernel_rfl)) (by intros; exact (by exact (pg_name (i := 2) sc_are_values.nd rfl (Or.inl rfl)))) (by intros; exact pts_nil) (by intros; exact (by exact (k_in (K := K) rfl hu65 (by exact (pv 2)) (by exact (pe_tup (by exact (pa_cons (by exact pe_int) (by exact (pa_cons (by exact pe_int) pa_nil (by rfl))) (by rfl))))) (by rfl)))) (by intro _; rfl))) pa_nil (by rfl))) (by decide) (by decide) (by rfl) (by rfl)))))))))), fun S R h => ?_⟩
  clear hu1 hu64 hu65 hr F T
  obtain ⟨v, n, rfl, hv, hl, hR⟩ := h
  refine ⟨[], by decide, fun i hi => (by cases hi), ?_⟩
  refine st_imp (show slot0 _ [M.d (clD v), .d (.int n)] = [M.d (clD v), .d (.int n), .no] from rfl) ?_
  have hl2 : v.length ≤ 50000 := by omega
  refine' st_retP (d := .bl (decide (((v.map D.int).length : Int) = n) && v.all fun x => decide (x ∈ ([0, 1] : List Int)))) ?u1 ⟨le_rt rfl, ?u2⟩
  case u2 =>
    have e : (decide (((v.map D.int).length : Int) = n) && v.all fun x => decide (x ∈ ([0, 1] : List Int))) = true := by
      rw [List.length_map, hv.len, decide_eq_true rfl, Bool.true_and, List.all_eq_true]
      intro x hx
      rcases hv.bin x hx with h | h <;> rw [h] <;> decide
    rw [e]
    exact hR
  case u1 =>
    refine' evp_andV ?u3 fun _ => ?u4
    case u3 => walk_at "ev"
    case u4 =>
      refine' evp_cb ?u5 v_all
      case u5 =>
        refine' EvP.b (EvF.p (evf_lcA (xs := v) (f := D.int) ?u6 hl2 ?u7))
        case u6 => walk_at "wk"
        case u7 =>
          intro x hx
          refine ⟨_, gt_name, ?_⟩
          refine' evp_in (x := .int x) (y := .tup (([0, 1] : List Int).map D.int)) ?u8 ?u9 v_in_intst
          case u8 => walk_at "ev"
          case u9 => exact EvP.b (EvP.is (d := .tup [.int 0, .int 1]) (by walk_at "ev") rfl)
abbrev s_is_soft : Stmt := top 17
theorem sc_is_soft : FnScope ["one", "count", "clause", "weight"] ["one", "count"] (defScope s_is_soft) := ⟨rfl, rfl, rfl, by decide +kernel, rfl, by decide +kernel, by decide +kernel⟩
def ct_is_soft : Ct := fun S R => ∃ (s : List Int × Int) (n : Nat), S = [.d (softD s), .d (.int n)] ∧ ClOk n s.1 ∧ n ≤ 300 ∧ 1 ≤ s.2 ∧ s.2 ≤ 1000000000 ∧ R (.bl true) [.no, .no]
theorem c_is_soft (F : FunAt K mg "is_soft" s_is_soft ["one", "count"]) (T : Txt K mg CProblem CModel CProgram)
    (c_is_clause : Cal P w K mg base "is_clause" 1 ["clause", "count"] (spD K (ct_is_clause)))
    : Cal P w K mg base "is_soft" 2 ["one", "count"] (spD K (ct_is_soft)) := by
  refine okC F sc_is_soft (fun S R h => ?_) fun f cdv A outer s H E hr => ?_
  · obtain ⟨s, n, rfl, hc, hn, h1, h2, hR⟩ := h; rfl
  have hu1 := hu1_of hr; have hu64 := hu64_of hr; have hu65 := hu65_of hr
  refine ⟨_, (by exact (pss_cons (by exact (ps_asg (by exact (pv 0)) (by exact (k_tup (K := K) (n := 2) rfl rfl (by exact (pgs_cons (by exact (pg_name (i := 2) sc_is_soft.nd rfl (Or.inl rfl))) (by exact (pgs_cons (by exact (pg_name (i := 3) sc_is_soft.nd rfl (Or.inl rfl))) pgs_nil)))) (by rfl) (by rfl)))))
      (by exact (pss_one (by exact (ps_ret (by exact (pe_and (by exact (pe_cal c_is_clause (hr.mono (by first | decide | omega)) (by rfl) (by exact (pa_cons (by exact (pv 2)) (by exact (pa_cons (by exact (pv 1)) pa_nil (by rfl))) (by rfl))))) (pe_one (by exact (pe_chain op_le op_le (by exact pe_int) (by exact (pv 3)) (by exact (pe_globI rfl T.g_MOST_WEIGHT))))))))))))), fun S R h => ?_⟩
  clear hu1 hu64 hu65 hr F T
  obtain ⟨s, n, rfl, hc, hn, h1, h2, hR⟩ := h
  refine ⟨[], by decide, fun i hi => (by cases hi), ?_⟩
  refine st_imp (show slot0 _ [M.d (softD s), .d (.int n)] = [M.d (softD s), .d (.int n), .no, .no] from rfl) ?_
  have hl := hc.len
  refine st_seq (st_asg (vs := [2, 3]) (by decide) (EvP.n (d := softD s) (by walk_at "ev") ⟨_, gt_pair, ?u1⟩))
  case u1 =>
  refine' st_retP (d := .bl (isCl s.1 n && (decide ((1 : Int) ≤ s.2) && decide (s.2 ≤ (1000000000 : Int))))) ?u2 ⟨le_rt rfl, ?u3⟩
  case u3 =>
    rw [hc.is, decide_eq_true h1, decide_eq_true h2]
    exact hR
  case u2 =>
    walk_at "ev"
abbrev s_Problem_init : Stmt := inClass (top 16) 0
theorem sc_Problem_init : FnScope ["self", "count", "hard", "soft", "clause", "weight", "one"] ["self", "count", "hard", "soft"] (defScope s_Problem_init) := ⟨rfl, rfl, rfl, by decide +kernel, rfl, by decide +kernel, by decide +kernel⟩
def ct_Problem (C : Addr) : Ct := fun S R => ∃ (p : Pb) (m1 m2 : M) (dh ds : D), S = [.o (.ins C [] []), .d (.int p.count), m1, m2] ∧ m1.rd dh ∧ m2.rd ds ∧ SqM clD p.hard dh ∧ SqM softD p.soft ds ∧ PbOk p ∧ R .non [.o (probD C p), .no, .no, .no]
theorem c_Problem (F : InitAt K mg "Problem" CProblem "__init__" "Problem.__init__" s_Problem_init ["self", "count", "hard", "soft"]) (T : Txt K mg CProblem CModel CProgram)
    (c_is_clause : Cal P w K mg base "is_clause" 1 ["clause", "count"] (spD K (ct_is_clause)))
    (c_is_soft : Cal P w K mg base "is_soft" 2 ["one", "count"] (spD K (ct_is_soft)))
    : ICal P w K mg base "Problem" CProblem 3 ["self", "count", "hard", "soft"] (spD K (ct_Problem CProblem)) := by
  refine okI F sc_Problem_init (fun S R h => ?_) fun f cdv A outer s H E hr => ?_
  · obtain ⟨p, m1, m2, dh, ds, rfl, hm1, hm2, sh, ss, ok, hR⟩ := h; rfl
  have hu1 := hu1_of hr; have hu64 := hu64_of hr; have hu65 := hu65_of hr
  refine ⟨_, (by exact (pss_cons (by exact (ps_fld (by exact (pv 0)) (by exact (pv 1)) rfl))
      (by exact (pss_cons (by exact (ps_fld (by exact (pv 0)) (by exact (k_tupleOf (K := K) rfl (by rfl) T.n_tuple (by exact (pe_lc (own := [("clause", 4)]) rfl sc_Problem_init.nd (by exact (k_sq (K := K) rfl (by exact (pv 2)))) (blkOk_by (own := [("clause", 4)]) (by kernel_rfl)) (by intros; exact (by exact (pg_name (i := 4) sc_Problem_init.nd rfl (Or.inl rfl)))) (by intros; exact pts_nil) (by intros; exact (by exact (k_tupleOf (K := K) rfl (by rfl) T.n_tuple (by exact (pv 4)) (by rfl)))) (by intro _; rfl))) (by rfl))) rfl))
      (by exact (pss_cons (by exact (ps_fld (by exact (pv 0)) (by exact (k_tupleOf (K := K) rfl (by rfl) T.n_tuple (by exact (pe_lc (own := [("clause", 4), ("weight", 5)]) rfl sc_Problem_init.nd (by exact (k_sq (K := K) rfl (by exact (pv 3)))) (blkOk_by (own := [("clause", 4), ("weight", 5)]) (by kernel_rfl)) (by intros; exact (by exact (k_tup (K := K) (n := 2) rfl rfl (by exact (pgs_cons (by exact (pg_name (i := 4) sc_Problem_init.nd rfl (Or.inl rfl))) (by exact (pgs_cons (by exact (pg_name (i := 5) sc_Problem_init.nd rfl (Or.inl rfl))) pgs_nil)))) (by rfl) (by rfl)))) (by intros; exact pts_nil) (by intros; exact (by exact (pe_tup (by exact (pa_cons (by exact (k_tupleOf (K := K) rfl (by rfl) T.n_tuple (by exact (pv 4)) (by rfl))) (by exact (pa_cons (by exact (pv 5)) pa_nil (by rfl))) (by rfl)))))) (by intro _; rfl))) (by rfl))) rfl))
      (by exact (pss_cons (by exact (ps_if (by exact (pt_not (by exact (pt_chain op_le op_le (by exact pe_int) (by exact (pv 1)) (by exact (pe_globI rfl T.g_MOST_COUNT)))))) (by exact (pss_one (by exact ps_never))) pss_nil))
      (by exact (pss_cons (by exact (ps_if (by exact (PW.pt (by exact (by exact (pw_or (by exact (pt_cmpR op_gt (by exact (k_callB (kr_len (K := K) rfl) (by rfl) T.n_len (by decide +kernel) (by exact (pa_cons (by exact (k_fld (K := K) rfl (by exact (pv 0)) rfl)) pa_nil (by rfl))) (by decide) (by decide) (by rfl) (by rfl))) (by exact (pe_globI rfl T.g_MOST_HARD)) (nomark _))) (by exact (pw_or1 (by exact (pt_not (by exact (k_tr (K := K) rfl (by exact (k_callB (kr_all (K := K) rfl rfl) (by rfl) T.n_all (by decide +kernel) (by exact (pa_cons (by exact (pe_lc (own := [("clause", 4)]) rfl sc_Problem_init.nd (by exact (k_sq (K := K) rfl (by exact (k_fld (K := K) rfl (by exact (pv 0)) rfl)))) (blkOk_by (own := [("clause", 4)]) (by kernel_rfl)) (by intros; exact (by exact (pg_name (i := 4) sc_Problem_init.nd rfl (Or.inl rfl)))) (by intros; exact pts_nil) (by intros; exact (by exact (pe_cal c_is_clause (hr.mono (by first | decide | omega)) (by rfl) (by exact (pa_cons (by exact (pv 4)) (by exact (pa_cons (by exact (pv 1)) pa_nil (by rfl))) (by rfl)))))) (by intro _; rfl))) pa_nil (by rfl))) (by decide) (by decide) (by rfl) (by rfl))) (fun _ => rfl)))))))))))) (by exact (pss_one (by exact ps_never))) pss_nil))
      (by exact (pss_one (by exact (ps_if (by exact (PW.pt (by exact (by exact (pw_or (by exact (pt_cmpR op_gt (by exact (k_callB (kr_len (K := K) rfl) (by rfl) T.n_len (by decide +kernel) (by exact (pa_cons (by exact (k_fld (K := K) rfl (by exact (pv 0)) rfl)) pa_nil (by rfl))) (by decide) (by decide) (by rfl) (by rfl))) (by exact (pe_globI rfl T.g_MOST_SOFT)) (nomark _))) (by exact (pw_or1 (by exact (pt_not (by exact (k_tr (K := K) rfl (by exact (k_callB (kr_all (K := K) rfl rfl) (by rfl) T.n_all (by decide +kernel) (by exact (pa_cons (by exact (pe_lc (own := [("one", 6)]) rfl sc_Problem_init.nd (by exact (k_sq (K := K) rfl (by exact (k_fld (K := K) rfl (by exact (pv 0)) rfl)))) (blkOk_by (own := [("one", 6)]) (by kernel_rfl)) (by intros; exact (by exact (pg_name (i := 6) sc_Problem_init.nd rfl (Or.inl rfl)))) (by intros; exact pts_nil) (by intros; exact (by exact (pe_cal c_is_soft (hr.mono (by first | decide | omega)) (by rfl) (by exact (pa_cons (by exact (pv 6)) (by exact (pa_cons (by exact (pv 1)) pa_nil (by rfl))) (by rfl)))))) (by intro _; rfl))) pa_nil (by rfl))) (by decide) (by decide) (by rfl) (by rfl))) (fun _ => rfl)))))))))))) (by exact (pss_one (by exact ps_never))) pss_nil)))))))))))))), fun S R h => ?_⟩
  have tcl_Problem := T.cl_Problem; have tf_Problem_count := T.f_Problem_count; have tf_Problem_hard := T.f_Problem_hard; have tf_Problem_soft := T.f_Problem_soft
  have tcl_Program := T.cl_Program; have tf_Program_count := T.f_Program_count
  clear hu1 hu64 hu65 hr F T
  obtain ⟨p, m1, m2, dh, ds, rfl, hm1, hm2, sh, ss, ok, hR⟩ := h
  refine ⟨[0], by decide, fun i hi m' hm' => (by simp at hi; subst hi; cases hm'; rfl), ?_⟩
  refine st_imp (show slot0 _ [M.o (.ins CProblem [] []), .d (.int p.count), m1, m2] = [M.o (.ins CProblem [] []), .d (.int p.count), m1, m2, .no, .no, .no] from rfl) ?_
  have hl := ok.hl; have sl := ok.sl; have cn := ok.cnt
  have hl2 : p.hard.length ≤ 50000 := by omega
  have sl2 : p.soft.length ≤ 50000 := by omega
  have cl : ∀ c ∈ p.hard, c.length ≤ 1000 := fun c hc => by have := (ok.hard c hc).len; omega
  refine st_seq (st_fld tcl_Problem tf_Problem_count (EvP.n (d := .int p.count) (by walk_at "ev") ⟨_, _, rfl, by decide, ?_⟩))
  refine st_seq (st_fld tcl_Problem tf_Problem_hard (EvP.n (d := .tup (p.hard.map clD)) ?u1 ⟨_, _, rfl, by decide, ?_⟩))
  case u1 =>
    refine' evp_then (EvP.b (EvF.p (evf_lcA (xs := p.hard) (f := clD) (r := clD) ?u2 hl2 ?u3))) v_tupl
    case u2 =>
      refine' wkb_sqM ?u4 sh
      case u4 => walk_at "ev"
    case u3 =>
      intro c hc
      refine ⟨_, gt_name, ?_⟩
      walk_at "ev"
  refine st_seq (st_fld tcl_Problem tf_Problem_soft (EvP.n (d := .tup (p.soft.map softD)) ?v1 ⟨_, _, rfl, by decide, ?_⟩))
  case v1 =>
    refine' evp_then (EvP.b (EvF.p (evf_lcA (xs := p.soft) (f := softD) (r := softD) ?v2 sl2 ?v3))) v_tupl
    case v2 =>
      refine' wkb_sqM ?v4 ss
      case v4 => walk_at "ev"
    case v3 =>
      intro s hs
      refine ⟨_, gt_pair, ?_⟩
      walk_at "ev"
  show StN K [0] _ [M.o (probD CProblem p), .d (.int p.count), m1, m2, .no, .no, .no] _
  refine' st_seq (st_ifP (b := !(decide ((0 : Int) ≤ (p.count : Int)) && decide ((p.count : Int) ≤ 300))) (by walk_at "ev") (fun hb => ?w1) fun _ => st_nil ?w2)
  case w1 =>
    rw [decide_eq_true (by omega), decide_eq_true (by omega)] at hb
    cases hb
  case w2 =>
  refine' st_seq (st_ifP (b := decide ((3000 : Int) < ((p.hard.map clD).length : Int)) || !(p.hard.all fun c => isCl c p.count)) ?x1 (fun hb => ?x2) fun _ => st_nil ?x3)
  case x1 =>
    refine' tpp_or ?x4 fun _ => ?x5
    case x4 => walk_at "ev"
    case x5 =>
      refine' tpp_not (tpp_tr (d := .bl _) (EvP.b (evp_cb (EvP.b (EvF.p (evf_lcA ?x6 hl2 ?x7))) v_all)) rfl)
      case x6 => walk_at "wk"
      case x7 =>
        intro c hc
        refine ⟨_, gt_name, ?_⟩
        walk_at "ev"
  case x2 =>
    have e : (p.hard.all fun c => isCl c p.count) = true := List.all_eq_true.mpr fun c hc => (ok.hard c hc).is
    rw [List.length_map, decide_eq_false (by omega), e] at hb
    cases hb
  case x3 =>
  refine' st_ifP (b := decide ((300 : Int) < ((p.soft.map softD).length : Int)) || !(p.soft.all fun _ => true)) ?y1 (fun hb => ?y2) fun _ => st_nil ⟨le_rt rfl, hR⟩
  case y1 =>
    have so := ok.soft
    have s1 : ∀ s ∈ p.soft, ClOk p.count s.1 := fun s hs => (so s hs).1
    have s2 : ∀ s ∈ p.soft, 1 ≤ s.2 := fun s hs => (so s hs).2.1
    have s3 : ∀ s ∈ p.soft, s.2 ≤ 1000000000 := fun s hs => (so s hs).2.2
    walk_at "ev"
  case y2 =>
    rw [List.length_map, decide_eq_false (by omega)] at hb
    simp at hb
abbrev s_Problem_payer : Stmt := inClass (top 16) 3
theorem sc_Problem_payer : FnScope ["self", "at"] ["self", "at"] (defScope s_Problem_payer) := ⟨rfl, rfl, rfl, by decide +kernel, rfl, by decide +kernel, by decide +kernel⟩
def ct_payer (C : Addr) : Ct := fun S R => ∃ (p : Pb) (i : Int) (m : M), S = [m, .d (.int i)] ∧ m.rd (probD C p) ∧ R (.int ((p.count : Int) + 1 + i)) [.no, .no]
theorem c_Problem_payer (F : MethAt K CProblem "payer" "Problem.payer" s_Problem_payer ["self", "at"]) (T : Txt K mg CProblem CModel CProgram)
    : MCal P w K mg base CProblem "payer" 1 ["self", "at"] (spD K (ct_payer CProblem)) := by
  refine okM F sc_Problem_payer (fun S R h => ?_) fun f cdv A outer s H E hr => ?_
  · obtain ⟨p, i, m, rfl, hm, hR⟩ := h; rfl
  have hu1 := hu1_of hr; have hu64 := hu64_of hr; have hu65 := hu65_of hr
  refine ⟨_, (by exact (pss_one (by exact (ps_ret (by exact (k_add (K := K) rfl (by exact (k_add (K := K) rfl (by exact (k_fld (K := K) rfl (by exact (pv 0)) rfl)) (by exact pe_int))) (by exact (pv 1)))))))), fun S R h => ?_⟩
  have tcl_Problem := T.cl_Problem; have tf_Problem_count := T.f_Problem_count
  have tcl_Program := T.cl_Program; have tf_Program_count := T.f_Program_count
  clear hu1 hu64 hu65 hr F T
  obtain ⟨p, i, m, rfl, hm, hR⟩ := h
  refine ⟨[], by decide, fun i hi => (by cases hi), ?_⟩
  refine st_imp (show slot0 _ [m, .d (.int i)] = [m, .d (.int i)] from rfl) ?_
  exact st_retP (d := .int ((p.count : Int) + 1 + i)) (by walk_at "ev") ⟨le_rt rfl, hR⟩
abbrev s_Problem_base : Stmt := inClass (top 16) 5
theorem sc_Problem_base : FnScope ["self", "found", "at", "clause", "_"] ["self"] (defScope s_Problem_base) := ⟨rfl, rfl, rfl, by decide +kernel, rfl, by decide +kernel, by decide +kernel⟩
def ct_base (C : Addr) : Ct := fun S R => ∃ (p : Pb) (m : M), S = [m] ∧ m.rd (probD C p) ∧ PbOk p ∧ R (.lst ((baseOf p).map clD)) [.no]
theorem c_Problem_base (F : MethAt K CProblem "base" "Problem.base" s_Problem_base ["self"]) (T : Txt K mg CProblem CModel CProgram)
    (c_Problem_payer : MCal P w K mg base CProblem "payer" 1 ["self", "at"] (spD K ((ct_payer CProblem))))
    : MCal P w K mg base CProblem "base" 2 ["self"] (spD K (ct_base CProblem)) := by
  refine okM F sc_Problem_base (fun S R h => ?_) fun f cdv A outer s H E hr => ?_
  · obtain ⟨p, m, rfl, hm, ok, hR⟩ := h; rfl
  have hu1 := hu1_of hr; have hu64 := hu64_of hr; have hu65 := hu65_of hr
  refine ⟨_, (by exact (pss_cons (by exact (ps_set (i := 1) sc_Problem_base.nd rfl (Or.inl rfl) (by exact (k_callTy (kr_list (K := K) rfl) (by rfl) T.n_list (by decide +kernel) (by exact (pa_cons (by exact (k_fld (K := K) rfl (by exact (pv 0)) rfl)) pa_nil (by rfl))) (by decide) (by decide) (by rfl) (by rfl)))))
      (by exact (pss_cons (by exact (ps_for PassesOwn.never rfl (by exact (k_enK (K := K) rfl (by rfl) T.n_enumerate (by exact (pa_cons (by exact (k_fld (K := K) rfl (by exact (pv 0)) rfl)) pa_nil (by rfl))) (by rfl))) (by exact (k_tup (K := K) (n := 2) rfl rfl (by exact (pgs_cons (by exact (pg_name (i := 2) sc_Problem_base.nd rfl (Or.inl rfl))) (by exact (pgs_cons (by exact (k_tup (K := K) (n := 2) rfl rfl (by exact (pgs_cons (by exact (pg_name (i := 3) sc_Problem_base.nd rfl (Or.inl rfl))) (by exact (pgs_cons (by exact (pg_name (i := 4) sc_Problem_base.nd rfl (Or.inl rfl))) pgs_nil)))) (by rfl) (by rfl))) pgs_nil)))) (by rfl) (by rfl))) (by exact (pss_one (by exact (ps_expr (by exact (pe_bm PySem.F.plainAttrs_list PySem.F.slot_list_append PySem.F.type_list_append mt_append (by exact (pv 1)) (by exact (pa_cons (by exact (k_add (K := K) rfl (by exact (pv 3)) (by exact (pe_tup (by exact (pa_cons (by exact (pe_mcal (by exact (pv 0)) T.cl_Problem c_Problem_payer (hr.mono (by first | decide | omega)) (by exact (pa_cons (by exact (pv 2)) pa_nil (by rfl))))) pa_nil (by rfl))))))) pa_nil (by rfl)))))))))))
      (by exact (pss_one (by exact (ps_ret (by exact (pv 1)))))))))), fun S R h => ?_⟩
  have tcl_Problem := T.cl_Problem; have tf_Problem_hard := T.f_Problem_hard; have tf_Problem_soft := T.f_Problem_soft
  clear hu1 hu64 hu65 hr F T
  obtain ⟨p, m, rfl, hm, ok, hR⟩ := h
  refine ⟨[], by decide, fun i hi => (by cases hi), ?_⟩
  refine st_imp (show slot0 _ [m] = [m, .no, .no, .no, .no] from rfl) ?_
  have hl := ok.hl; have sl := ok.sl; have cn := ok.cnt
  refine st_seq (st_setF (d := .lst (p.hard.map clD)) (by decide) (by walk_at "ev") ?u1)
  case u1 =>
  refine st_seq (st_forT (vs := [2, 3, 4]) (xs := p.soft.zipIdx) (f := fun q => .tup [.int (q.2 : Nat), softD q.1]) (fun pre S' => ∃ (a2 a3 a4 : M), S' = [m, .o (.lst ((p.hard ++ pre.map fun q => q.1.1 ++ [(p.count : Int) + 1 + (q.2 : Nat)]).map clD)), a2, a3, a4]) ?u2 (by decide) ?u3 ?u4 ?u5)
  case u2 => walk_at "wk"
  case u3 => exact ⟨.no, .no, .no, by rw [List.map_nil, List.append_nil]; rfl⟩
  case u5 =>
    rintro S' ⟨a2, a3, a4, rfl⟩
    refine st_frz (i := 1) rfl rfl (by decide) (st_retP (d := .lst ((baseOf p).map clD)) (by walk_at "ev") ⟨le_rt rfl, hR⟩)
  case u4 =>
    rintro pre q post S' e ⟨a2, a3, a4, rfl⟩
    have hq : q ∈ p.soft.zipIdx := by rw [e]; simp
    have hc := (ok.soft q.1 (List.fst_mem_of_mem_zipIdx hq)).1.len
    have hpre : pre.length < 300 := by
      have := congrArg List.length e
      rw [List.length_append, List.length_cons, List.length_zipIdx] at this
      omega
    refine' ⟨_, ?gx, ?nx⟩
    case gx => walk_at "gt"
    case nx =>
    refine st_expr (evn_append rfl (EvP.n (d := clD (q.1.1 ++ [(p.count : Int) + 1 + (q.2 : Nat)])) ?u6 ⟨_, rfl, by rw [List.length_map, List.length_append, List.length_map]; omega, .d (.int (q.2 : Nat)), .d (clD q.1.1), .d (.int q.1.2), ?u7⟩))
    case u6 =>
      refine' EvP.is (evp_op (x := clD q.1.1) (y := .tup [.int ((p.count : Int) + 1 + (q.2 : Nat))]) ?u8 ?u9 (v_catt (by simp; omega))) ?u10
      case u8 => walk_at "ev"
      case u9 => walk_at "ev"
      case u10 => simp
    case u7 =>
      have eS : (p.hard ++ pre.map fun q => q.1.1 ++ [(p.count : Int) + 1 + (q.2 : Nat)]).map clD ++ [clD (q.1.1 ++ [(p.count : Int) + 1 + (q.2 : Nat)])] = (p.hard ++ (pre ++ [q]).map fun q => q.1.1 ++ [(p.count : Int) + 1 + (q.2 : Nat)]).map clD := by simp
      rw [← eS]
      rfl
abbrev s_Problem_whole_price : Stmt := inClass (top 16) 6
theorem sc_Problem_whole_price : FnScope ["self", "_", "weight"] ["self"] (defScope s_Problem_whole_price) := ⟨rfl, rfl, rfl, by decide +kernel, rfl, by decide +kernel, by decide +kernel⟩
def wholeP (p : Pb) : Int := (p.soft.map fun s => s.2).sum
def ct_whole (C : Addr) : Ct := fun S R => ∃ (p : Pb) (m : M), S = [m] ∧ m.rd (probD C p) ∧ PbOk p ∧ R (.int (wholeP p)) [.no]
theorem c_Problem_whole_price (F : MethAt K CProblem "whole_price" "Problem.whole_price" s_Problem_whole_price ["self"]) (T : Txt K mg CProblem CModel CProgram)
    : MCal P w K mg base CProblem "whole_price" 1 ["self"] (spD K (ct_whole CProblem)) := by
  refine okM F sc_Problem_whole_price (fun S R h => ?_) fun f cdv A outer s H E hr => ?_
  · obtain ⟨p, m, rfl, hm, ok, hR⟩ := h; rfl
  have hu1 := hu1_of hr; have hu64 := hu64_of hr; have hu65 := hu65_of hr
  refine ⟨_, (by exact (pss_one (by exact (ps_ret (by exact (k_callB (kr_sum (K := K) rfl rfl) (by rfl) T.n_sum (by decide +kernel) (by exact (pa_cons (by exact (pe_lc (own := [("_", 1), ("weight", 2)]) rfl sc_Problem_whole_price.nd (by exact (k_sq (K := K) rfl (by exact (k_fld (K := K) rfl (by exact (pv 0)) rfl)))) (blkOk_by (own := [("_", 1), ("weight", 2)]) (by kernel_rfl)) (by intros; exact (by exact (k_tup (K := K) (n := 2) rfl rfl (by exact (pgs_cons (by exact (pg_name (i := 1) sc_Problem_whole_price.nd rfl (Or.inl rfl))) (by exact (pgs_cons (by exact (pg_name (i := 2) sc_Problem_whole_price.nd rfl (Or.inl rfl))) pgs_nil)))) (by rfl) (by rfl)))) (by intros; exact pts_nil) (by intros; exact (by exact (pv 2))) (by intro _; rfl))) pa_nil (by rfl))) (by decide) (by decide) (by rfl) (by rfl))))))), fun S R h => ?_⟩
  have tcl_Problem := T.cl_Problem; have tf_Problem_soft := T.f_Problem_soft
  clear hu1 hu64 hu65 hr F T
  obtain ⟨p, m, rfl, hm, ok, hR⟩ := h
  refine ⟨[], by decide, fun i hi => (by cases hi), ?_⟩
  refine st_imp (show slot0 _ [m] = [m, .no, .no] from rfl) ?_
  have sl := ok.sl
  have sl2 : p.soft.length ≤ 50000 := by omega
  refine' st_retP (d := .int (wholeP p)) ?u1 ⟨le_rt rfl, hR⟩
  case u1 =>
    unfold wholeP
    walk_at "ev"
end
open PySem L2 Evl PyProof.Rows Dl

section
variable {P : Program} {w : World} {K : PySem.W.Frag} {mg : PySem.Str → Option Value} {base : Heap} {CProblem CModel CProgram : Addr}
abbrev s_law_pool : Stmt := top 48
theorem sc_law_pool : FnScope ["script", "budget"] ["script", "budget"] (defScope s_law_pool) := ⟨rfl, rfl, rfl, by decide +kernel, rfl, by decide +kernel, by decide +kernel⟩
theorem c_law_pool (F : FunAt K mg "_law_pool" s_law_pool ["script", "budget"]) (T : Txt K mg CProblem CModel CProgram) : Cal P w K mg base "_law_pool" 1 ["script", "budget"] (spPool K) := by
  refine okR F sc_law_pool (fun vs H Q E h => ?_) fun f cdv A outer s H vs Q E hr h => ?_
  · obtain ⟨a, ns, rfl, _⟩ := h; rfl
  have hu1 := hu1_of hr
  have hu64 := hu64_of hr
  have hu65 := hu65_of hr
  refine ⟨_, (by exact (pss_one (by exact (ps_ret (by exact (pe_lst (by exact (pa_cons (by exact (k_callTy (kr_list (K := K) rfl) (by rfl) T.n_list (by decide +kernel) (by exact (pa_cons (by exact (pv 0)) pa_nil (by rfl))) (by decide) (by decide) (by rfl) (by rfl))) (by exact (pa_cons (by exact pe_int) (by exact (pa_cons (by exact pe_int) (by exact (pa_cons (by exact pe_int) (by exact (pa_cons (by exact pe_int) (by exact (pa_cons (by exact (pv 1)) pa_nil (by rfl))) (by rfl))) (by rfl))) (by rfl))) (by rfl))) (by rfl))))))))), ?_⟩
  obtain ⟨a, ns, rfl, hs, q⟩ := h
  refine ⟨_, rfl, ⟨a, _, rfl, .inl hs, fun l hl => ?_⟩⟩
  refine ⟨_, rfl, ?_⟩
  refine (show _ ∧ _ from ⟨sz_of (by simp), fun p hp => q l p hl (fun e => ?_) ?_⟩)
  · subst e; rw [upd_same] at hp; cases hp
  · by_cases e : p = l
    · subst e; exact hl
    · rwa [upd_ne e] at hp
abbrev s_law_draw : Stmt := top 49
theorem sc_law_draw : FnScope ["pool", "size", "cell", "value"] ["pool", "size"] (defScope s_law_draw) := ⟨rfl, rfl, rfl, by decide +kernel, rfl, by decide +kernel, by decide +kernel⟩
def ct_draw : Ct := fun S R => ∃ n : Int, S = [.e PoolD, .d (.int n)] ∧ 0 < n ∧ n ≤ 1000000 ∧ ∀ v : Int, 0 ≤ v → v < n → R (.int v) [.e PoolD, .no]
theorem c_law_draw (F : FunAt K mg "_law_draw" s_law_draw ["pool", "size"]) (T : Txt K mg CProblem CModel CProgram) : Cal P w K mg base "_law_draw" 1 ["pool", "size"] (spD K ct_draw) := by
  refine okC F sc_law_draw (fun S R h => ?_) fun f cdv A outer s H E hr => ?_
  · obtain ⟨n, rfl, _⟩ := h; rfl
  have hu1 := hu1_of hr
  have hu64 := hu64_of hr
  have hu65 := hu65_of hr
  refine ⟨_, (by exact (pss_cons (by exact (ps_if (by exact (PW.pt (by exact (by exact (pw_and (by exact (pt_cmpR op_le (by exact (k_sub (K := K) rfl hu1 (by exact (pv 0)) (by exact pe_int) (fun _ _ => rfl) (fun _ _ => rfl))) (by exact pe_int) (nomark _))) (by exact (pw_and (by exact (pt_cmpR op_le (by exact (k_sub (K := K) rfl hu1 (by exact (pv 0)) (by exact pe_int) (fun _ _ => rfl) (fun _ _ => rfl))) (by exact pe_int) (nomark _))) (by exact (pw_and1 (by exact (pt_cmpR op_lt (by exact (k_sub (K := K) rfl hu1 (by exact (pv 0)) (by exact pe_int) (fun _ _ => rfl) (fun _ _ => rfl))) (by exact (k_callB (kr_len (K := K) rfl) (by rfl) T.n_len (by decide +kernel) (by exact (pa_cons (by exact (k_sub (K := K) rfl hu1 (by exact (pv 0)) (by exact pe_int) (fun _ _ => rfl) (fun _ _ => rfl))) pa_nil (by rfl))) (by decide) (by decide) (by rfl) (by rfl))) (nomark _)))))))))))) (by exact (pss_cons (by exact (ps_set (i := 2) sc_law_draw.nd rfl (Or.inl rfl) (by exact (k_sub (K := K) rfl hu1 (by exact (k_sub (K := K) rfl hu1 (by exact (pv 0)) (by exact pe_int) (fun _ _ => rfl) (fun _ _ => rfl))) (by exact (k_sub (K := K) rfl hu1 (by exact (pv 0)) (by exact pe_int) (fun _ _ => rfl) (fun _ _ => rfl))) (fun _ _ => rfl) (fun _ _ => rfl)))))
      (by exact (pss_cons (by exact (ps_asg (by exact (k_add (K := K) rfl (by exact (k_sub (K := K) rfl hu1 (by exact (pv 0)) (by exact pe_int) (fun _ _ => rfl) (fun _ _ => rfl))) (by exact pe_int))) (pg_sub (by exact (pv 0)) (by exact pe_int) set_list)))
      (by exact (pss_cons (by exact (ps_asg (by exact (pe_op op_modN (by exact (k_callTy cr_intU (by rfl) T.n_int (by decide +kernel) (by exact (pa_cons (by exact (k_add (K := K) rfl (by exact (pe_op op_mul (by exact (k_sub (K := K) rfl hu1 (by exact (pv 0)) (by exact pe_int) (fun _ _ => rfl) (fun _ _ => rfl))) (by exact pe_int))) (by exact (pv 2)))) pa_nil (by rfl))) (by decide) (by decide) (by rfl) (by rfl))) (by exact pe_int))) (pg_sub (by exact (pv 0)) (by exact pe_int) set_list)))
      (by exact (pss_cons (by exact (ps_asg (by exact pe_int) (pg_sub (by exact (pv 0)) (by exact pe_int) set_list)))
      (by exact (pss_one (by exact (ps_if (by exact (pt_cmpR op_ge (by exact (pv 2)) (by exact (pe_op op_pow (by exact pe_int) (by exact pe_int))) (nomark _))) (by exact (pss_one (by exact (ps_asg (by exact (pv 2)) (pg_sub (by exact (pv 0)) (by exact pe_int) set_list))))) pss_nil)))))))))))) pss_nil))
      (by exact (pss_cons (by exact (ps_if (by exact (pt_cmpR op_gt (by exact (k_sub (K := K) rfl hu1 (by exact (pv 0)) (by exact pe_int) (fun _ _ => rfl) (fun _ _ => rfl))) (by exact pe_int) (nomark _))) (by exact (pss_cons (by exact (ps_set (i := 3) sc_law_draw.nd rfl (Or.inl rfl) (by exact (pe_op op_modN (by exact (k_callTy cr_intU (by rfl) T.n_int (by decide +kernel) (by exact (pa_cons (by exact (k_sub (K := K) rfl hu1 (by exact (pv 0)) (by exact pe_int) (fun _ _ => rfl) (fun _ _ => rfl))) pa_nil (by rfl))) (by decide) (by decide) (by rfl) (by rfl))) (by exact (pv 1))))))
      (by exact (pss_cons (by exact (ps_asg (by exact (pe_op op_fdivN (by exact (k_sub (K := K) rfl hu1 (by exact (pv 0)) (by exact pe_int) (fun _ _ => rfl) (fun _ _ => rfl))) (by exact (pv 1)))) (pg_sub (by exact (pv 0)) (by exact pe_int) set_list)))
      (by exact (pss_cons (by exact (ps_asg (by exact pe_int) (pg_sub (by exact (pv 0)) (by exact pe_int) set_list)))
      (by exact (pss_one (by exact (ps_ret (by exact (pv 3)))))))))))) pss_nil))
      (by exact (pss_cons (by exact (ps_asg (by exact (pe_op op_sub (by exact (k_sub (K := K) rfl hu1 (by exact (pv 0)) (by exact pe_int) (fun _ _ => rfl) (fun _ _ => rfl))) (by exact pe_int))) (pg_sub (by exact (pv 0)) (by exact pe_int) set_list)))
      (by exact (pss_cons (by exact (ps_asg (by exact (pe_op op_modN (by exact (k_callTy cr_intU (by rfl) T.n_int (by decide +kernel) (by exact (pa_cons (by exact (k_add (K := K) rfl (by exact (pe_op op_mul (by exact (k_sub (K := K) rfl hu1 (by exact (pv 0)) (by exact pe_int) (fun _ _ => rfl) (fun _ _ => rfl))) (by exact pe_int))) (by exact pe_int))) pa_nil (by rfl))) (by decide) (by decide) (by rfl) (by rfl))) (by exact pe_int))) (pg_sub (by exact (pv 0)) (by exact pe_int) set_list)))
      (by exact (pss_one (by exact (ps_ret (by exact (pe_op op_modN (by exact (pe_op op_modN (by exact (k_callTy cr_intU (by rfl) T.n_int (by decide +kernel) (by exact (pa_cons (by exact (k_add (K := K) rfl (by exact (pe_op op_mul (by exact (k_sub (K := K) rfl hu1 (by exact (pv 0)) (by exact pe_int) (fun _ _ => rfl) (fun _ _ => rfl))) (by exact pe_int))) (by exact pe_int))) pa_nil (by rfl))) (by decide) (by decide) (by rfl) (by rfl))) (by exact pe_int))) (by exact (pv 1)))))))))))))))), fun S R h => ?_⟩
  obtain ⟨n, rfl, h0, h1, hR⟩ := h
  clear hu1 hu64 hu65 hr F T
  have hn0 : n ≠ 0 := by omega
  have hdv : CDivN (0 : Int) n := ⟨by omega, by omega⟩
  refine ⟨[0], by decide, fun i hi m' hm' => by simp at hi; subst hi; cases hm'; rfl, ?_⟩
  refine st_imp (show slot0 _ [M.e PoolD, .d (.int n)] = [M.e PoolD, .d (.int n), .no, .no] from rfl) ?_
  refine st_open (i := 0) rfl fun x hx => ?_
  obtain ⟨ns, a1, a2, a3, a4, rfl, p1⟩ := hx
  have last : ∀ (b1 b2 b3 b4 : Int) (m2 m3 : M), 0 ≤ b1 → StN K [0] (tRet (tOp modI (tOp modI (tCB intU (tCons (tOp (addU K) (tOp mulI (orE (tOp (rIx K) (tVar 0) (tC (V.int 3))) (tDGet (tVar 0) (tC (V.int 3)))) (tC (V.int 69621))) (tC (V.int 7919))) tNil)) (tC (V.int 2147483647))) (tVar 1)))
      [.o (.lst [.lst (ns.map D.int), .int b1, .int b2, .int b3, .int b4, .int 0]), .d (.int n), m2, m3] ⟨fun S' => 2 ≤ S'.length ∧ R .non (outM [0] 0 2 S'), fun d S' => 2 ≤ S'.length ∧ R d (outM [0] 0 2 S'), fun _ => False, fun _ => False⟩ := fun b1 b2 b3 b4 m2 m3 hb => by
    refine st_ret (evn_close (i := 0) (φ := PoolD) (EvP.n (d := .int (((b3 * 69621 + 7919).fmod 2147483647).fmod n)) ?ev ⟨_, rfl, ⟨ns, b1, b2, b3, b4, rfl, hb⟩, by show 2 ≤ 4; decide, hR _ (Int.fmod_nonneg_of_pos _ h0) (Int.fmod_lt_of_pos _ h0)⟩))
    case ev => walk_at "ev"
  have hnb : n.natAbs < 1073741824 := by omega
  have fin : ∀ (b1 b2 b3 b4 : Int) (m2 m3 : M), 0 ≤ b1 → StN K [0] (tSeq (tIfS (tTest (tOp gtI (orE (tOp (rIx K) (tVar 0) (tC (V.int 2))) (tDGet (tVar 0) (tC (V.int 2)))) (tC (V.int 0))))
          (tSeq (tAsg (tOp modI (tCB intU (tCons (orE (tOp (rIx K) (tVar 0) (tC (V.int 2))) (tDGet (tVar 0) (tC (V.int 2)))) tNil)) (tVar 1)) (gName 3))
            (tSeq (tAsg (tOp fdvI (orE (tOp (rIx K) (tVar 0) (tC (V.int 2))) (tDGet (tVar 0) (tC (V.int 2)))) (tVar 1)) (gSub (tVar 0) (tC (V.int 2)) rSetL))
              (tSeq (tAsg (tC (V.int 0)) (gSub (tVar 0) (tC (V.int 4)) rSetL)) (tRet (tVar 3))))) tNext)
        (tSeq (tAsg (tOp subI (orE (tOp (rIx K) (tVar 0) (tC (V.int 4))) (tDGet (tVar 0) (tC (V.int 4)))) (tC (V.int 1))) (gSub (tVar 0) (tC (V.int 4)) rSetL))
          (tSeq (tAsg (tOp modI (tCB intU (tCons (tOp (addU K) (tOp mulI (orE (tOp (rIx K) (tVar 0) (tC (V.int 3))) (tDGet (tVar 0) (tC (V.int 3)))) (tC (V.int 48271))) (tC (V.int 12345))) tNil)) (tC (V.int 2147483647))) (gSub (tVar 0) (tC (V.int 3)) rSetL))
            (tRet (tOp modI (tOp modI (tCB intU (tCons (tOp (addU K) (tOp mulI (orE (tOp (rIx K) (tVar 0) (tC (V.int 3))) (tDGet (tVar 0) (tC (V.int 3)))) (tC (V.int 69621))) (tC (V.int 7919))) tNil)) (tC (V.int 2147483647))) (tVar 1))))))
      [.o (.lst [.lst (ns.map D.int), .int b1, .int b2, .int b3, .int b4, .int 0]), .d (.int n), m2, m3] ⟨fun S' => 2 ≤ S'.length ∧ R .non (outM [0] 0 2 S'), fun d S' => 2 ≤ S'.length ∧ R d (outM [0] 0 2 S'), fun _ => False, fun _ => False⟩ := fun b1 b2 b3 b4 m2 m3 hb => by
    refine' st_seq (st_ifP (b := decide (0 < b2)) ?t1 ?t2 ?t3)
    case t1 => walk_at "ev"
    case t2 =>
      intro _
      refine st_seq (st_setP (d := .int (b2.fmod n)) (by decide) ?t4 ?t5)
      case t4 => walk_at "ev"
      case t5 =>
      refine st_seq (st_setix (j := 2) ⟨_, rfl⟩ (EvP.n (d := .int (b2.fdiv n)) ?t6 ⟨⟨_, rfl⟩, EvP.n (d := .int 2) ?t7 ⟨2, _, rfl, rfl, rfl, ?t8⟩⟩))
      case t6 => walk_at "ev"
      case t7 => walk_at "ev"
      case t8 =>
      refine st_seq (st_setix (j := 4) ⟨_, rfl⟩ (EvP.n (d := .int 0) ?t9 ⟨⟨_, rfl⟩, EvP.n (d := .int 4) ?t10 ⟨4, _, rfl, rfl, rfl, ?t11⟩⟩))
      case t9 => walk_at "ev"
      case t10 => walk_at "ev"
      case t11 =>
      refine st_ret (evn_close (i := 0) (φ := PoolD) (EvP.n (d := .int (b2.fmod n)) ?t12 ⟨_, rfl, ⟨ns, b1, b2.fdiv n, b3, 0, rfl, hb⟩, by show 2 ≤ 4; decide, hR _ (Int.fmod_nonneg_of_pos _ h0) (Int.fmod_lt_of_pos _ h0)⟩))
      case t12 => walk_at "ev"
    case t3 =>
    intro _
    refine st_nil (st_seq (st_setix (j := 4) ⟨_, rfl⟩ (EvP.n (d := .int (b4 - 1)) ?t13 ⟨⟨_, rfl⟩, EvP.n (d := .int 4) ?t14 ⟨4, _, rfl, rfl, rfl, ?t15⟩⟩)))
    case t13 => walk_at "ev"
    case t14 => walk_at "ev"
    case t15 =>
    refine st_seq (st_setix (j := 3) ⟨_, rfl⟩ (EvP.n (d := .int ((b3 * 48271 + 12345).fmod 2147483647)) ?t16 ⟨⟨_, rfl⟩, EvP.n (d := .int 3) ?t17 ⟨3, _, rfl, rfl, rfl, ?t18⟩⟩))
    case t16 => walk_at "ev"
    case t17 => walk_at "ev"
    case t18 => exact last b1 b2 _ _ m2 m3 hb
  have hlen : ∀ x : List D, ((x.length : Nat) : Int) = x.length := fun _ => rfl
  refine' st_seq (st_ifP (b := (decide (a2 ≤ 0) && (decide (a4 ≤ 0) && decide (a1 < (((ns.map D.int).length : Nat) : Int))))) ?u1 ?u2 ?u3)
  case u1 => walk_at "ev"
  case u3 => intro _; exact st_nil (fin a1 a2 a3 a4 .no .no p1)
  case u2 =>
  intro hb
  have hlt : a1 < (ns.length : Int) := by
    rw [List.length_map] at hb
    simp at hb
    exact hb.2.2
  clear hb
  obtain ⟨j, rfl⟩ : ∃ j : Nat, a1 = (j : Int) := ⟨a1.toNat, by omega⟩
  have hj : j < ns.length := by omega
  have hat : atI (ns.map D.int) (j : Int) = some (.int ns[j]) := atI_nat (by rw [List.getElem?_map, List.getElem?_eq_getElem hj]; rfl)
  generalize ns[j] = cell at hat
  refine st_seq (st_setP (d := .int cell) (by decide) ?u4 ?u5)
  case u4 => walk_at "ev"
  case u5 =>
  refine st_seq (st_setix (j := 1) ⟨_, rfl⟩ (EvP.n (d := .int ((j : Int) + 1)) ?u6 ⟨⟨_, rfl⟩, EvP.n (d := .int 1) ?u7 ⟨1, _, rfl, rfl, rfl, ?u8⟩⟩))
  case u6 => walk_at "ev"
  case u7 => walk_at "ev"
  case u8 =>
  refine st_seq (st_setix (j := 3) ⟨_, rfl⟩ (EvP.n (d := .int ((a3 * 31 + cell).fmod 2147483647)) ?u9 ⟨⟨_, rfl⟩, EvP.n (d := .int 3) ?u10 ⟨3, _, rfl, rfl, rfl, ?u11⟩⟩))
  case u9 => walk_at "ev"
  case u10 => walk_at "ev"
  case u11 =>
  refine st_seq (st_setix (j := 4) ⟨_, rfl⟩ (EvP.n (d := .int 7) ?u12 ⟨⟨_, rfl⟩, EvP.n (d := .int 4) ?u13 ⟨4, _, rfl, rfl, rfl, ?u14⟩⟩))
  case u12 => walk_at "ev"
  case u13 => walk_at "ev"
  case u14 =>
  refine' st_ifP ?u15 ?u16 ?u17
  case u15 => walk_at "ev"
  case u17 => intro _; exact st_nil (fin _ a2 _ _ _ _ (by omega))
  case u16 =>
    intro _
    refine st_setix (j := 2) ⟨_, rfl⟩ (EvP.n (d := .int cell) ?u18 ⟨⟨_, rfl⟩, EvP.n (d := .int 2) ?u19 ⟨2, _, rfl, rfl, rfl, ?u20⟩⟩)
    case u18 => walk_at "ev"
    case u19 => walk_at "ev"
    case u20 => exact fin _ cell _ _ _ _ (by omega)
theorem evn_draw {i : Nat} {m : Int} {te : TE} {R : D → List M → Prop} {S : List M} (h0 : S[i]? = some (.e PoolD)) (ht : EvP K te S (.int m)) (hm : 0 < m) (hM : m ≤ 1000000) (hR : ∀ v : Int, 0 ≤ v → v < m → R (.int v) S) : EvN K (tCall (spD K ct_draw) [] E0 (tCons (tVar i) (tCons te tNil))) S R := by
  refine evn_call (arn_s h0 rfl (arn_p ht (arn_nil ⟨?_, m, ?_, hm, hM, fun v v0 v1 => ?_⟩)))
  · simp [arChk, arOne, slots, ndB, Ar.slot?, List.filterMap_cons, h0, M.own]
  · simp [arM, h0]
  · have e : putBack [Ar.s i, .d (.int m)] [M.e PoolD, .no] S = S := by
      show S.set i (M.e PoolD) = S
      apply List.ext_getElem?
      intro j
      by_cases q : i = j
      · subst q
        rw [List.getElem?_set_self (List.getElem?_eq_some_iff.mp h0).1, h0]
      · rw [List.getElem?_set_ne q]
    show R (.int v) (putBack [Ar.s i, .d (.int m)] [M.e PoolD, .no] S)
    rw [e]
    exact hR v v0 v1
end
open PySem L2 Evl PyProof.Rows Dl

section
variable {P : Program} {w : World} {K : PySem.W.Frag} {mg : PySem.Str → Option Value} {base : Heap} {CProblem CModel CProgram : Addr}
abbrev s_law_same : Stmt := top 50
theorem sc_law_same : FnScope ["actual", "due", "k"] ["actual", "due"] (defScope s_law_same) := ⟨rfl, rfl, rfl, by decide +kernel, rfl, by decide +kernel, by decide +kernel⟩
/-- data of which the law's judge takes each as the same as itself -/
def Sm : Nat → D → Prop
  | 0, _ => False
  | n + 1, d => d = .non ∨ (∃ b, d = .bl b) ∨ (∃ i, d = .int i) ∨ (∃ s, d = .str s ∧ PySem.PyData.strOk s = true) ∨ ∃ ds : List D, (d = .tup ds ∨ d = .lst ds) ∧ ds.length ≤ 50000 ∧ ∀ x ∈ ds, Sm n x
def ct_same (n : Nat) : Ct := fun S R => ∃ (d : D) (m1 m2 : M), S = [m1, m2] ∧ m1.rd d ∧ m2.rd d ∧ Sm n d ∧ R (.bl true) [.no, .no]
theorem c_law_same (F : FunAt K mg "_law_same" s_law_same ["actual", "due"]) (T : Txt K mg CProblem CModel CProgram) : ∀ n : Nat, Cal P w K mg base "_law_same" n ["actual", "due"] (spD K (ct_same n))
  | 0 => cal_no F fun S R ⟨d, _, _, _, _, _, h, _⟩ => h
  | n + 1 => by
    have c_law_same := c_law_same F T n
    refine okC F sc_law_same (fun S R h => ?_) fun f cdv A outer s H E hr => ?_
    · obtain ⟨d, m1, m2, rfl, _⟩ := h; rfl
    have hu1 := hu1_of hr; have hu64 := hu64_of hr; have hu65 := hu65_of hr
    refine ⟨_, (by exact (pss_cons (by exact (ps_if (by exact (PW.pt (by exact (by exact (pw_or (by exact (k_tr (K := K) rfl (by exact (k_callB (kr_isi (K := K) rfl) (by rfl) T.n_isinstance (by decide +kernel) (by exact (pa_cons (by exact (pv 1)) (by exact (pa_cons (by exact (pe_bltn (v := .ty "tuple") (by rfl) T.n_tuple (by decide +kernel) rfl)) pa_nil (by rfl))) (by rfl))) (by decide) (by decide) (by rfl) (by rfl))) (fun _ => rfl))) (by exact (pw_or1 (by exact (k_tr (K := K) rfl (by exact (k_callB (kr_isi (K := K) rfl) (by rfl) T.n_isinstance (by decide +kernel) (by exact (pa_cons (by exact (pv 1)) (by exact (pa_cons (by exact (pe_bltn (v := .ty "list") (by rfl) T.n_list (by decide +kernel) rfl)) pa_nil (by rfl))) (by rfl))) (by decide) (by decide) (by rfl) (by rfl))) (fun _ => rfl)))))))))) (by exact (pss_cons (by exact (ps_if (by exact (PW.pt (by exact (by exact (pw_or (by exact (kt_ne (K := K) rfl hu64 (by exact (k_callB (kr_isi (K := K) rfl) (by rfl) T.n_isinstance (by decide +kernel) (by exact (pa_cons (by exact (pv 1)) (by exact (pa_cons (by exact (pe_bltn (v := .ty "tuple") (by rfl) T.n_tuple (by decide +kernel) rfl)) pa_nil (by rfl))) (by rfl))) (by decide) (by decide) (by rfl) (by rfl))) (by exact (k_callB (kr_isi (K := K) rfl) (by rfl) T.n_isinstance (by decide +kernel) (by exact (pa_cons (by exact (pv 0)) (by exact (pa_cons (by exact (pe_bltn (v := .ty "tuple") (by rfl) T.n_tuple (by decide +kernel) rfl)) pa_nil (by rfl))) (by rfl))) (by decide) (by decide) (by rfl) (by rfl))))) (by exact (pw_or1 (by exact (kt_ne (K := K) rfl hu64 (by exact (k_callB (kr_isi (K := K) rfl) (by rfl) T.n_isinstance (by decide +kernel) (by exact (pa_cons (by exact (pv 1)) (by exact (pa_cons (by exact (pe_bltn (v := .ty "list") (by rfl) T.n_list (by decide +kernel) rfl)) pa_nil (by rfl))) (by rfl))) (by decide) (by decide) (by rfl) (by rfl))) (by exact (k_callB (kr_isi (K := K) rfl) (by rfl) T.n_isinstance (by decide +kernel) (by exact (pa_cons (by exact (pv 0)) (by exact (pa_cons (by exact (pe_bltn (v := .ty "list") (by rfl) T.n_list (by decide +kernel) rfl)) pa_nil (by rfl))) (by rfl))) (by decide) (by decide) (by rfl) (by rfl)))))))))))) (by exact (pss_one (by exact (ps_ret (by exact pe_bl))))) pss_nil))
      (by exact (pss_cons (by exact (ps_if (by exact (kt_ne (K := K) rfl hu64 (by exact (k_callB (kr_len (K := K) rfl) (by rfl) T.n_len (by decide +kernel) (by exact (pa_cons (by exact (pv 0)) pa_nil (by rfl))) (by decide) (by decide) (by rfl) (by rfl))) (by exact (k_callB (kr_len (K := K) rfl) (by rfl) T.n_len (by decide +kernel) (by exact (pa_cons (by exact (pv 1)) pa_nil (by rfl))) (by decide) (by decide) (by rfl) (by rfl))))) (by exact (pss_one (by exact (ps_ret (by exact pe_bl))))) pss_nil))
      (by exact (pss_cons (by exact (ps_for PassesOwn.never rfl (by exact (pi_range1 rfl T.n_range (by exact (pa_cons (by exact (k_callB (kr_len (K := K) rfl) (by rfl) T.n_len (by decide +kernel) (by exact (pa_cons (by exact (pv 1)) pa_nil (by rfl))) (by decide) (by decide) (by rfl) (by rfl))) pa_nil (by rfl))))) (by exact (pg_name (i := 2) sc_law_same.nd rfl (Or.inl rfl))) (by exact (pss_one (by exact (ps_if (by exact (pt_not (by exact (k_tr (K := K) rfl (by exact (pe_cal c_law_same (hr.mono (by first | decide | omega)) (by rfl) (by exact (pa_cons (by exact (k_sub (K := K) rfl hu1 (by exact (pv 0)) (by exact (pv 2)) (fun _ _ => rfl) (fun _ _ => rfl))) (by exact (pa_cons (by exact (k_sub (K := K) rfl hu1 (by exact (pv 1)) (by exact (pv 2)) (fun _ _ => rfl) (fun _ _ => rfl))) pa_nil (by rfl))) (by rfl))))) (fun _ => rfl))))) (by exact (pss_one (by exact (ps_ret (by exact pe_bl))))) pss_nil))))))
      (by exact (pss_one (by exact (ps_ret (by exact pe_bl))))))))))) pss_nil))
      (by exact (pss_cons (by exact (ps_if (by exact (PW.pt (by exact (by exact (pw_or (by exact (pt_cmpR or_isU (by exact (pv 1)) (by exact pe_non) (nomark _))) (by exact (pw_or1 (by exact (k_tr (K := K) rfl (by exact (k_callB (kr_isi (K := K) rfl) (by rfl) T.n_isinstance (by decide +kernel) (by exact (pa_cons (by exact (pv 1)) (by exact (pa_cons (by exact (pe_bltn (v := .ty "bool") (by rfl) T.n_bool (by decide +kernel) rfl)) pa_nil (by rfl))) (by rfl))) (by decide) (by decide) (by rfl) (by rfl))) (fun _ => rfl)))))))))) (by exact (pss_one (by exact (ps_ret (by exact (pe_and (by exact (k_eq (K := K) rfl hu64 (by exact (pe_cmpR or_isU (by exact (pv 0)) (by exact pe_non) (nomark _))) (by exact (pe_cmpR or_isU (by exact (pv 1)) (by exact pe_non) (nomark _))))) (pe_and (by exact (pe_or (by exact (pe_cmpR or_isU (by exact (pv 1)) (by exact pe_non) (nomark _))) (pe_one (by exact (k_callB (kr_isi (K := K) rfl) (by rfl) T.n_isinstance (by decide +kernel) (by exact (pa_cons (by exact (pv 0)) (by exact (pa_cons (by exact (pe_bltn (v := .ty "bool") (by rfl) T.n_bool (by decide +kernel) rfl)) pa_nil (by rfl))) (by rfl))) (by decide) (by decide) (by rfl) (by rfl)))))) (pe_one (by exact (k_eq (K := K) rfl hu64 (by exact (pv 0)) (by exact (pv 1)))))))))))) pss_nil))
      (by exact (pss_cons (by exact (ps_if (by exact (k_tr (K := K) rfl (by exact (k_callB (kr_isi (K := K) rfl) (by rfl) T.n_isinstance (by decide +kernel) (by exact (pa_cons (by exact (pv 1)) (by exact (pa_cons (by exact (pe_bltn (v := .ty "int") (by rfl) T.n_int (by decide +kernel) rfl)) pa_nil (by rfl))) (by rfl))) (by decide) (by decide) (by rfl) (by rfl))) (fun _ => rfl))) (by exact (pss_one (by exact (ps_ret (by exact (pe_and (by exact (k_callB (kr_isi (K := K) rfl) (by rfl) T.n_isinstance (by decide +kernel) (by exact (pa_cons (by exact (pv 0)) (by exact (pa_cons (by exact (pe_bltn (v := .ty "int") (by rfl) T.n_int (by decide +kernel) rfl)) pa_nil (by rfl))) (by rfl))) (by decide) (by decide) (by rfl) (by rfl))) (pe_and (by exact (pe_not (by exact (k_callB (kr_isi (K := K) rfl) (by rfl) T.n_isinstance (by decide +kernel) (by exact (pa_cons (by exact (pv 0)) (by exact (pa_cons (by exact (pe_bltn (v := .ty "bool") (by rfl) T.n_bool (by decide +kernel) rfl)) pa_nil (by rfl))) (by rfl))) (by decide) (by decide) (by rfl) (by rfl))))) (pe_one (by exact (k_eq (K := K) rfl hu64 (by exact (pv 0)) (by exact (pv 1)))))))))))) pss_nil))
      (by exact (pss_one (by exact (ps_ret (by exact (pe_and (by exact (k_callB (kr_isi (K := K) rfl) (by rfl) T.n_isinstance (by decide +kernel) (by exact (pa_cons (by exact (pv 0)) (by exact (pa_cons (by exact (pe_bltn (v := .ty "str") (by rfl) T.n_str (by decide +kernel) rfl)) pa_nil (by rfl))) (by rfl))) (by decide) (by decide) (by rfl) (by rfl))) (pe_one (by exact (k_eq (K := K) rfl hu64 (by exact (pv 0)) (by exact (pv 1))))))))))))))))), fun S R h => ?_⟩
    clear hu1 hu64 hu65 hr F T
    obtain ⟨d, m1, m2, rfl, hm1, hm2, hd, hR⟩ := h
    refine ⟨[], by decide, fun i hi => (by cases hi), ?_⟩
    refine st_imp (show slot0 _ [m1, m2] = [m1, m2, .no] from rfl) ?_
    rcases hd with rfl | ⟨b, rfl⟩ | ⟨i, rfl⟩ | ⟨s, rfl, hs⟩ | ⟨ds, rfl | rfl, hl, hds⟩
    · -- .non
      refine' st_seq (st_ifP (b := false || false) ?n1 (fun z => by cases z) fun _ => st_nil ?n2)
      case n1 => walk_at "ev"
      case n2 =>
      refine' st_seq (st_ifP (b := (D.non).isN || false) ?n3 (fun _ => ?n4) fun z => by cases z)
      case n3 =>
        refine' tpp_or (a := (D.non).isN) ?n5 fun z => by cases z
        case n5 => walk_at "ev"
      case n4 =>
      refine' st_retP (d := .bl true) (EvP.is (d := .bl (decide ((D.non).isN = (D.non).isN) && (((D.non).isN || false) && true))) ?n6 (by simp [D.isN])) ⟨le_rt rfl, hR⟩
      case n6 =>
        refine' evp_andV ?n7 fun _ => evp_andV ?n8 fun _ => evp_op (x := .non) (y := .non) ?n9 ?n10 (v_eqb rfl rfl rfl rfl rfl)
        case n7 => walk_at "ev"
        case n8 => walk_at "ev"
        case n9 => walk_at "ev"
        case n10 => walk_at "ev"
    · -- .bl
      refine' st_seq (st_ifP (b := false || false) ?b1 (fun z => by cases z) fun _ => st_nil ?b2)
      case b1 => walk_at "ev"
      case b2 =>
      refine' st_seq (st_ifP (b := (D.bl b).isN || true) ?b3 (fun _ => ?b4) fun z => by cases z)
      case b3 => walk_at "ev"
      case b4 =>
      refine' st_retP (d := .bl true) (EvP.is (d := .bl (decide ((D.bl b).isN = (D.bl b).isN) && (((D.bl b).isN || true) && decide (b = b)))) ?b6 (by simp [D.isN])) ⟨le_rt rfl, hR⟩
      case b6 => walk_at "ev"
    · -- .int
      refine' st_seq (st_ifP (b := false || false) ?i1 (fun z => by cases z) fun _ => st_nil ?i2)
      case i1 => walk_at "ev"
      case i2 =>
      refine' st_seq (st_ifP (b := (D.int i).isN || false) ?i3 (fun z => by cases z) fun _ => st_nil ?i4)
      case i3 => walk_at "ev"
      case i4 =>
      refine' st_seq (st_ifP (b := true) ?i5 (fun _ => ?i6) fun z => by cases z)
      case i5 => walk_at "ev"
      case i6 =>
      refine' st_retP (d := .bl true) (EvP.is (d := .bl (true && (!false && decide (i = i)))) ?i7 (by simp [D.isN])) ⟨le_rt rfl, hR⟩
      case i7 => walk_at "ev"
    · -- .str
      refine' st_seq (st_ifP (b := false || false) ?s1 (fun z => by cases z) fun _ => st_nil ?s2)
      case s1 => walk_at "ev"
      case s2 =>
      refine' st_seq (st_ifP (b := (D.str s).isN || false) ?s3 (fun z => by cases z) fun _ => st_nil ?s4)
      case s3 => walk_at "ev"
      case s4 =>
      refine' st_seq (st_ifP (b := false) ?s5 (fun z => by cases z) fun _ => st_nil ?s6)
      case s5 => walk_at "ev"
      case s6 =>
      refine' st_retP (d := .bl true) (EvP.is (d := .bl (true && decide (s = s))) ?s7 (by simp [D.isN])) ⟨le_rt rfl, hR⟩
      case s7 => walk_at "ev"
    · -- .tup
      refine' st_seq (st_ifP (b := true || false) ?t1 (fun _ => ?t2) (fun z => by cases z))
      case t1 => walk_at "ev"
      case t2 =>
      refine' st_seq (st_ifP (b := (!decide (true = true)) || (!decide (false = false))) ?t3 (fun z => by simp at z) fun _ => st_nil ?t4)
      case t3 =>
        refine' tpp_or (tpp_test (evp_op (x := .bl true) (y := .bl true) ?t20 ?t21 v_nebl)) fun _ => tpp_test (evp_op (x := .bl false) (y := .bl false) ?t22 ?t23 v_nebl)
        case t20 => walk_at "ev"
        case t21 => walk_at "ev"
        case t22 => walk_at "ev"
        case t23 => walk_at "ev"
      case t4 =>
      refine' st_seq (st_ifP (b := !decide ((ds.length : Int) = ds.length)) ?t5 (fun z => by simp at z) fun _ => st_nil ?t6)
      case t5 => walk_at "ev"
      case t6 =>
      refine' st_seq (st_forT (vs := [2]) (xs := List.range ds.length) (f := fun i => .int (i : Nat)) (fun _ S' => ∃ a : M, S' = [m1, m2, a]) ?t7 (by decide) ⟨.no, rfl⟩ ?t8 ?t9)
      case t7 => walk_at "wk"
      case t9 =>
        rintro S' ⟨a, rfl⟩
        exact st_retP (d := .bl true) (by walk_at "ev") ⟨le_rt rfl, hR⟩
      case t8 =>
        rintro pre i post S' e ⟨a, rfl⟩
        have hi : i < ds.length := List.mem_range.mp (by rw [e]; simp)
        have hat : atI ds ((i : Nat) : Int) = some ds[i] := atI_nat (List.getElem?_eq_getElem hi)
        have hsm : Sm n ds[i] := hds _ (List.getElem_mem hi)
        refine ⟨_, gt_name, ?_⟩
        refine' st_ifP (b := !true) ?t10 (fun z => by cases z) fun _ => st_nil ⟨.d (.int (i : Nat)), rfl⟩
        case t10 =>
          refine' tpp_not (tpp_tr (d := .bl true) ?t11 rfl)
          case t11 => walk_at "ev"
    · -- .lst
      refine' st_seq (st_ifP (b := false || true) ?l1 (fun _ => ?l2) (fun z => by cases z))
      case l1 => walk_at "ev"
      case l2 =>
      refine' st_seq (st_ifP (b := (!decide (false = false)) || (!decide (true = true))) ?l3 (fun z => by simp at z) fun _ => st_nil ?l4)
      case l3 =>
        refine' tpp_or (tpp_test (evp_op (x := .bl false) (y := .bl false) ?l20 ?l21 v_nebl)) fun _ => tpp_test (evp_op (x := .bl true) (y := .bl true) ?l22 ?l23 v_nebl)
        case l20 => walk_at "ev"
        case l21 => walk_at "ev"
        case l22 => walk_at "ev"
        case l23 => walk_at "ev"
      case l4 =>
      refine' st_seq (st_ifP (b := !decide ((ds.length : Int) = ds.length)) ?l5 (fun z => by simp at z) fun _ => st_nil ?l6)
      case l5 => walk_at "ev"
      case l6 =>
      refine' st_seq (st_forT (vs := [2]) (xs := List.range ds.length) (f := fun i => .int (i : Nat)) (fun _ S' => ∃ a : M, S' = [m1, m2, a]) ?l7 (by decide) ⟨.no, rfl⟩ ?l8 ?l9)
      case l7 => walk_at "wk"
      case l9 =>
        rintro S' ⟨a, rfl⟩
        exact st_retP (d := .bl true) (by walk_at "ev") ⟨le_rt rfl, hR⟩
      case l8 =>
        rintro pre i post S' e ⟨a, rfl⟩
        have hi : i < ds.length := List.mem_range.mp (by rw [e]; simp)
        have hat : atI ds ((i : Nat) : Int) = some ds[i] := atI_nat (List.getElem?_eq_getElem hi)
        have hsm : Sm n ds[i] := hds _ (List.getElem_mem hi)
        refine ⟨_, gt_name, ?_⟩
        refine' st_ifP (b := !true) ?l10 (fun z => by cases z) fun _ => st_nil ⟨.d (.int (i : Nat)), rfl⟩
        case l10 =>
          refine' tpp_not (tpp_tr (d := .bl true) ?l11 rfl)
          case l11 => walk_at "ev"
end
open PySem L2 Evl PyProof.Rows Dl

section
variable {P : Program} {w : World} {K : PySem.W.Frag} {mg : PySem.Str → Option Value} {base : Heap} {CProblem CModel CProgram : Addr}
abbrev s_law_literals : Stmt := top 51
theorem sc_law_literals : FnScope ["pool", "count", "most", "found", "variable"] ["pool", "count", "most"] (defScope s_law_literals) := ⟨rfl, rfl, rfl, by decide +kernel, rfl, by decide +kernel, by decide +kernel⟩
def ct_lits : Ct := fun S R => ∃ (n k : Nat), S = [.e PoolD, .d (.int n), .d (.int k)] ∧ n ≤ 300 ∧ ∀ c : List Int, ClOk n c → R (clD c) [.e PoolD, .no, .no]
theorem c_law_literals (F : FunAt K mg "_law_literals" s_law_literals ["pool", "count", "most"]) (T : Txt K mg CProblem CModel CProgram)
    (c_law_draw : Cal P w K mg base "_law_draw" 1 ["pool", "size"] (spD K (ct_draw)))
    : Cal P w K mg base "_law_literals" 2 ["pool", "count", "most"] (spD K (ct_lits)) := by
  refine okC F sc_law_literals (fun S R h => ?_) fun f cdv A outer s H E hr => ?_
  · obtain ⟨n, k, rfl, hn, hR⟩ := h; rfl
  have hu1 := hu1_of hr; have hu64 := hu64_of hr; have hu65 := hu65_of hr
  refine ⟨_, (by exact (pss_cons (by exact (ps_set (i := 3) sc_law_literals.nd rfl (Or.inl rfl) (by exact (pe_lst pa_nil))))
      (by exact (pss_cons (by exact (ps_for PassesOwn.never rfl (by exact (pi_range2 rfl T.n_range (by exact (pa_cons (by exact pe_int) (by exact (pa_cons (by exact (k_add (K := K) rfl (by exact (pv 1)) (by exact pe_int))) pa_nil (by rfl))) (by rfl))))) (by exact (pg_name (i := 4) sc_law_literals.nd rfl (Or.inl rfl))) (by exact (pss_one (by exact (ps_if (by exact (PW.pt (by exact (by exact (pw_and (by exact (pt_cmpR op_lt (by exact (k_callB (kr_len (K := K) rfl) (by rfl) T.n_len (by decide +kernel) (by exact (pa_cons (by exact (pv 3)) pa_nil (by rfl))) (by decide) (by decide) (by rfl) (by rfl))) (by exact (pv 2)) (nomark _))) (by exact (pw_and1 (by exact (kt_eq (K := K) rfl hu64 (by exact (pe_cal c_law_draw (hr.mono (by first | decide | omega)) (by rfl) (by exact (pa_cons (by exact (pv 0)) (by exact (pa_cons (by exact pe_int) pa_nil (by rfl))) (by rfl))))) (by exact pe_int)))))))))) (by exact (pss_one (by exact (ps_expr (by exact (pe_bm PySem.F.plainAttrs_list PySem.F.slot_list_append PySem.F.type_list_append mt_append (by exact (pv 3)) (by exact (pa_cons (by exact (k_sub (K := K) rfl hu1 (by exact (pe_tup (by exact (pa_cons (by exact (pv 4)) (by exact (pa_cons (by exact (pe_op op_sub (by exact pe_int) (by exact (pv 4)))) pa_nil (by rfl))) (by rfl))))) (by exact (pe_cal c_law_draw (hr.mono (by first | decide | omega)) (by rfl) (by exact (pa_cons (by exact (pv 0)) (by exact (pa_cons (by exact pe_int) pa_nil (by rfl))) (by rfl))))) (fun _ _ => rfl) (fun _ _ => rfl))) pa_nil (by rfl))))))))) pss_nil))))))
      (by exact (pss_one (by exact (ps_ret (by exact (k_tupleOf (K := K) rfl (by rfl) T.n_tuple (by exact (pv 3)) (by rfl))))))))))), fun S R h => ?_⟩
  clear hu1 hu64 hu65 hr F T
  obtain ⟨n, k, rfl, hn, hR⟩ := h
  refine ⟨[0], by decide, fun i hi m' hm' => (by simp at hi; subst hi; cases hm'; rfl), ?_⟩
  refine st_imp (show slot0 _ [M.e PoolD, .d (.int n), .d (.int k)] = [M.e PoolD, .d (.int n), .d (.int k), .no, .no] from rfl) ?_
  refine st_seq (st_setF (d := .lst []) (by decide) (by walk_at "ev") ?u1)
  case u1 =>
  refine st_seq (st_forT (vs := [4]) (xs := List.range n) (f := fun i => .int (1 + (i : Nat))) (fun pre S' => ∃ (c : List Int) (a4 : M), S' = [M.e PoolD, .d (.int n), .d (.int k), .o (.lst (c.map D.int)), a4] ∧ ClOk pre.length c ∧ ∀ i, pre[i]? = some i ∨ pre.length ≤ i) ?u2 (by decide) ?u3 ?u4 ?u5)
  case u2 =>
    refine' wkp_rng1n ?u6 (by omega)
    case u6 => walk_at "ev"
  case u3 => exact ⟨[], .no, rfl, ⟨fun l hl => (by cases hl), List.Pairwise.nil⟩, fun i => .inr (Nat.zero_le _)⟩
  case u5 =>
    rintro S' ⟨c, a4, rfl, hc, -⟩
    rw [List.length_range] at hc
    exact st_retP (d := clD c) (by walk_at "ev") ⟨le_rt rfl, hR c hc⟩
  case u4 =>
    rintro pre i post S' e ⟨c, a4, rfl, hc, hp⟩
    have hpl : pre.length = i := by
      have h1 := congrArg (fun l => l[pre.length]?) e
      simp only [List.getElem?_append_right (Nat.le_refl _), Nat.sub_self, List.getElem?_cons_zero] at h1
      obtain ⟨h2, h3⟩ := List.getElem?_eq_some_iff.mp h1
      rw [List.getElem_range] at h3
      exact h3
    subst hpl
    have hpn : pre.length < n := by
      have := congrArg List.length e
      rw [List.length_range, List.length_append, List.length_cons] at this
      omega
    have hcl := hc.len
    have keep : ClOk (pre ++ [pre.length]).length c := hc.mono (by rw [List.length_append]; omega)
    have nxt : ∀ j, (pre ++ [pre.length])[j]? = some j ∨ (pre ++ [pre.length]).length ≤ j := fun j => by
      rw [List.length_append, List.length_singleton]
      rcases hp j with h | h
      · exact .inl (by rw [List.getElem?_append_left (List.getElem?_eq_some_iff.mp h).1]; exact h)
      · by_cases q : j = pre.length
        · subst q; exact .inl (by rw [List.getElem?_append_right (Nat.le_refl _), Nat.sub_self]; rfl)
        · exact .inr (by omega)
    refine ⟨_, gt_name, ?_⟩
    refine st_if (tpn_and (TpP.n (b := decide (((c.map D.int).length : Int) < k)) (by walk_at "ev") ⟨fun _ => tpn_test (evn_op (evn_draw (i := 0) (m := 3) rfl (by walk_at "ev") (by decide) (by decide) fun v v0 v1 => EvP.n (d := .int 0) (by walk_at "ev") ⟨_, v_eqi, _, rfl, fun _ => ?w1, fun _ => st_nil ⟨c, _, rfl, keep, nxt⟩⟩)), fun _ => ⟨fun z => (by cases z), fun _ => st_nil ⟨c, _, rfl, keep, nxt⟩⟩⟩))
    case w1 =>
    have bound : ∀ l : Int, l.natAbs = pre.length + 1 → ClOk (pre ++ [pre.length]).length (c ++ [l]) := fun l hl => ⟨fun x hx => by
      rcases List.mem_append.mp hx with z | z
      · exact keep.lit x z
      · rw [List.mem_singleton] at z; subst z; exact ⟨by omega, by rw [List.length_append, List.length_singleton]; omega⟩, by
      rw [List.pairwise_append]
      refine ⟨hc.asc, List.pairwise_singleton _ _, fun a ha b hb => ?_⟩
      rw [List.mem_singleton] at hb
      subst hb
      have := (hc.lit a ha).2
      omega⟩
    have fin : ∀ l : Int, l.natAbs = pre.length + 1 → ∃ (c' : List Int) (a4' : M), [M.e PoolD, .d (.int n), .d (.int k), .o (.lst (c.map D.int ++ [D.int l])), .d (.int (1 + (pre.length : Nat)))] = [M.e PoolD, .d (.int n), .d (.int k), .o (.lst (c'.map D.int)), a4'] ∧ ClOk (pre ++ [pre.length]).length c' ∧ ∀ i, (pre ++ [pre.length])[i]? = some i ∨ (pre ++ [pre.length]).length ≤ i := fun l hl =>
      ⟨c ++ [l], _, by rw [List.map_append]; rfl, bound l hl, nxt⟩
    refine st_expr (evn_append rfl (evn_ix (evn_op (EvP.n (d := .tup [.int (1 + (pre.length : Nat)), .int (0 - (1 + (pre.length : Nat)))]) (by walk_at "ev") (evn_draw (i := 0) (m := 2) rfl (by walk_at "ev") (by decide) (by decide) fun v v0 v1 => ?w2)))))
    case w2 =>
    have hv : v = 0 ∨ v = 1 := by omega
    rcases hv with rfl | rfl
    · exact ⟨_, v_ixt rfl, _, rfl, by rw [List.length_map]; omega, fin _ (by omega)⟩
    · exact ⟨_, v_ixt rfl, _, rfl, by rw [List.length_map]; omega, fin _ (by omega)⟩
end
open PySem L2 Evl PyProof.Rows Dl

section
variable {P : Program} {w : World} {K : PySem.W.Frag} {mg : PySem.Str → Option Value} {base : Heap} {CProblem CModel CProgram : Addr}
theorem st_seqA {Pn : List Nat} {S : List M} {P : Post} {t u : TS} {α : Type} (S0 : α → List M) (φ : α → Prop) (rest : ∀ x, φ x → StN K Pn u (S0 x) P) (h : (∀ x, φ x → StN K Pn u (S0 x) P) → StN K Pn t S { P with nx := fun S' => StN K Pn u S' P }) : StN K Pn (tSeq t u) S P := st_seq (h rest)
abbrev s_law_problem : Stmt := top 52
theorem sc_law_problem : FnScope ["pool", "most", "hards", "softs", "weight", "count", "hard", "k", "clause", "soft"] ["pool", "most", "hards", "softs", "weight"] (defScope s_law_problem) := ⟨rfl, rfl, rfl, by decide +kernel, rfl, by decide +kernel, by decide +kernel⟩
def ct_prob : Ct := fun S R => ∃ (most hards softs wt : Nat), S = [.e PoolD, .d (.int most), .d (.int hards), .d (.int softs), .d (.int wt)] ∧ 1 ≤ most ∧ most ≤ 300 ∧ hards ≤ 1000 ∧ softs ≤ 1000 ∧ 1 ≤ wt ∧ wt ≤ 1000 ∧
  ∀ p : Pb, PbB most hards softs wt p → R (problemD p) [.e PoolD, .no, .no, .no, .no]
theorem c_law_problem (F : FunAt K mg "_law_problem" s_law_problem ["pool", "most", "hards", "softs", "weight"]) (T : Txt K mg CProblem CModel CProgram)
    (c_law_draw : Cal P w K mg base "_law_draw" 1 ["pool", "size"] (spD K (ct_draw)))
    (c_law_literals : Cal P w K mg base "_law_literals" 2 ["pool", "count", "most"] (spD K (ct_lits)))
    : Cal P w K mg base "_law_problem" 3 ["pool", "most", "hards", "softs", "weight"] (spD K (ct_prob)) := by
  refine okC F sc_law_problem (fun S R h => ?_) fun f cdv A outer s H E hr => ?_
  · obtain ⟨most, hards, softs, wt, rfl, m1, m2, h1, s1, w1, w2, hR⟩ := h; rfl
  have hu1 := hu1_of hr; have hu64 := hu64_of hr; have hu65 := hu65_of hr
  refine ⟨_, (by exact (pss_cons (by exact (ps_set (i := 5) sc_law_problem.nd rfl (Or.inr rfl) (by exact (k_add (K := K) rfl (by exact pe_int) (by exact (pe_cal c_law_draw (hr.mono (by first | decide | omega)) (by rfl) (by exact (pa_cons (by exact (pv 0)) (by exact (pa_cons (by exact (pv 1)) pa_nil (by rfl))) (by rfl)))))))))
      (by exact (pss_cons (by exact (ps_setLc (i := 6) (own := [("k", 7)]) rfl sc_law_problem.nd rfl rfl (sw_true rfl rfl rfl (by decide +kernel)) (by exact (pi_range1 rfl T.n_range (by exact (pa_cons (by exact (pe_cal c_law_draw (hr.mono (by first | decide | omega)) (by rfl) (by exact (pa_cons (by exact (pv 0)) (by exact (pa_cons (by exact (k_add (K := K) rfl (by exact (pv 2)) (by exact pe_int))) pa_nil (by rfl))) (by rfl))))) pa_nil (by rfl))))) (blkOk_by (own := [("k", 7)]) (by kernel_rfl)) (by intros; exact (by exact (pg_name (i := 7) sc_law_problem.nd rfl (Or.inl rfl)))) (by intros; exact pts_nil) (by intros; exact (by exact (pe_cal c_law_literals (hr.mono (by first | decide | omega)) (by rfl) (by exact (pa_cons (by exact (pv 0)) (by exact (pa_cons (by exact (pv 5)) (by exact (pa_cons (by exact pe_int) pa_nil (by rfl))) (by rfl))) (by rfl))))))))
      (by exact (pss_cons (by exact (ps_if (by exact (pt_cmpR op_gt (by exact (pe_cal c_law_draw (hr.mono (by first | decide | omega)) (by rfl) (by exact (pa_cons (by exact (pv 0)) (by exact (pa_cons (by exact pe_int) pa_nil (by rfl))) (by rfl))))) (by exact pe_int) (nomark _))) (by exact (pss_one (by exact (ps_setLc (i := 6) (own := [("clause", 8)]) rfl sc_law_problem.nd rfl rfl (sw_true rfl rfl rfl (by decide +kernel)) (by exact (k_sq (K := K) rfl (by exact (pv 6)))) (blkOk_by (own := [("clause", 8)]) (by kernel_rfl)) (by intros; exact (by exact (pg_name (i := 8) sc_law_problem.nd rfl (Or.inl rfl)))) (by intros; exact pts_one (by exact (kt_ne (K := K) rfl hu64 (by exact (pv 8)) (by exact (pe_tup pa_nil))))) (by intros; exact (by exact (pv 8))))))) pss_nil))
      (by exact (pss_cons (by exact (ps_setLc (i := 9) (own := [("k", 7)]) rfl sc_law_problem.nd rfl rfl (sw_true rfl rfl rfl (by decide +kernel)) (by exact (pi_range1 rfl T.n_range (by exact (pa_cons (by exact (pe_cal c_law_draw (hr.mono (by first | decide | omega)) (by rfl) (by exact (pa_cons (by exact (pv 0)) (by exact (pa_cons (by exact (k_add (K := K) rfl (by exact (pv 3)) (by exact pe_int))) pa_nil (by rfl))) (by rfl))))) pa_nil (by rfl))))) (blkOk_by (own := [("k", 7)]) (by kernel_rfl)) (by intros; exact (by exact (pg_name (i := 7) sc_law_problem.nd rfl (Or.inl rfl)))) (by intros; exact pts_nil) (by intros; exact (by exact (pe_tup (by exact (pa_cons (by exact (pe_cal c_law_literals (hr.mono (by first | decide | omega)) (by rfl) (by exact (pa_cons (by exact (pv 0)) (by exact (pa_cons (by exact (pv 5)) (by exact (pa_cons (by exact pe_int) pa_nil (by rfl))) (by rfl))) (by rfl))))) (by exact (pa_cons (by exact (k_add (K := K) rfl (by exact pe_int) (by exact (pe_cal c_law_draw (hr.mono (by first | decide | omega)) (by rfl) (by exact (pa_cons (by exact (pv 0)) (by exact (pa_cons (by exact (pv 4)) pa_nil (by rfl))) (by rfl))))))) pa_nil (by rfl))) (by rfl))))))))
      (by exact (pss_one (by exact (ps_ret (by exact (pe_tup (by exact (pa_cons (by exact (pv 5)) (by exact (pa_cons (by exact (k_tupleOf (K := K) rfl (by rfl) T.n_tuple (by exact (pv 6)) (by rfl))) (by exact (pa_cons (by exact (k_tupleOf (K := K) rfl (by rfl) T.n_tuple (by exact (pv 9)) (by rfl))) pa_nil (by rfl))) (by rfl))) (by rfl))))))))))))))))), fun S R h => ?_⟩
  clear hu1 hu64 hu65 hr F T
  obtain ⟨most, hards, softs, wt, rfl, m1, m2, h1, s1, w1, w2, hR⟩ := h
  refine ⟨[0], by decide, fun i hi m' hm' => (by simp at hi; subst hi; cases hm'; rfl), ?_⟩
  refine st_imp (show slot0 _ [M.e PoolD, .d (.int most), .d (.int hards), .d (.int softs), .d (.int wt)] = [M.e PoolD, .d (.int most), .d (.int hards), .d (.int softs), .d (.int wt), .no, .no, .no, .no, .no] from rfl) ?_
  refine st_seq (st_set (by decide) (evn_op (EvP.n (d := .int 1) (by walk_at "ev") (evn_draw (i := 0) (m := most) rfl (by walk_at "ev") (by omega) (by omega) fun v v0 v1 => ⟨.int (1 + v), v_add, ?a1⟩))))
  case a1 =>
  obtain ⟨n, hn⟩ : ∃ n : Nat, 1 + v = (n : Int) := ⟨(1 + v).toNat, by omega⟩
  rw [hn]
  have n1 : 1 ≤ n := by omega
  have n2 : n ≤ most := by omega
  have n3 : n ≤ 300 := by omega
  clear hn v0 v1
  show StN K [0] _ [M.e PoolD, .d (.int most), .d (.int hards), .d (.int softs), .d (.int wt), .d (.int n), .no, .no, .no, .no] _
  refine st_seq (st_seto (by decide) (evo_lc (vs := [7]) (f := fun i : Nat => D.int i) (Rel := fun (_ : Nat) o => ∃ c : List Int, ClOk n c ∧ o = some (clD c)) (φ := fun xs => xs.length ≤ hards) ?b1 ?b2 ?b3 ?b4))
  case b1 => intro i hi m hm; simp at hi; subst hi; cases hm; rfl
  case b2 =>
    refine wkn_rng1 (evn_draw (i := 0) (m := (hards : Int) + 1) rfl (by walk_at "ev") (by omega) (by omega) fun v v0 v1 => ⟨v.toNat, by show D.int v = _; congr 1; omega, by omega, rfl, List.range v.toNat, ?b5, by simp; omega, by simp; omega⟩)
    case b5 => unfold rgD; simp
  case b3 =>
    intro xs hx a ha
    refine ⟨_, gt_name, tpn_yes ⟨rfl, fun z => (by cases z), fun _ => ?b6⟩⟩
    refine evn_poolC (φ := PoolD) rfl (ds := [.int n, .int 3]) (by walk_at "ev") ⟨n, 3, rfl, n3, fun c hc => ⟨rfl, c, hc, rfl⟩⟩
  case b4 =>
  intro xs ds hx hs
  obtain ⟨hard, rfl, hok, hlen⟩ := sel_some hs
  have hl : hard.length ≤ hards := by omega
  clear hs hlen hx xs
  show StN K [0] _ [M.e PoolD, .d (.int most), .d (.int hards), .d (.int softs), .d (.int wt), .d (.int n), .o (.lst (hard.map clD)), .no, .no, .no] _
  refine st_seqA (α := List (List Int)) (fun hd => [M.e PoolD, .d (.int most), .d (.int hards), .d (.int softs), .d (.int wt), .d (.int n), .o (.lst (hd.map clD)), .no, .no, .no]) (fun hd => (∀ c ∈ hd, ClOk n c) ∧ hd.length ≤ hards) ?rest ?first
  case first =>
    intro rest
    refine st_if (tpn_test (evn_op (evn_draw (i := 0) (m := 4) rfl (by walk_at "ev") (by decide) (by decide) fun v v0 v1 => EvP.n (d := .int 0) (by walk_at "ev") ⟨_, v_gt, _, rfl, fun _ => ?c1, fun _ => st_nil (rest hard ⟨hok, hl⟩)⟩)))
    case c1 =>
    have hl2 : hard.length ≤ 50000 := by omega
    refine' st_setF (d := .lst ((hard.filter fun c => !decide (c = [])).map clD)) (by decide) ?c2 (rest _ ⟨fun c hc => hok c ((List.mem_filter.mp hc).1), Nat.le_trans (List.length_filter_le _ _) hl⟩)
    case c2 =>
      refine' evf_lc (xs := hard) (f := clD) (r := clD) ?c3 hl2 ?c4
      case c3 => walk_at "wk"
      case c4 =>
        intro c hc
        refine ⟨_, gt_name, ?_, fun _ => evp_var rfl⟩
        refine' tpp_test (evp_op (x := clD c) (y := clD []) ?c5 ?c6 (v_neT (emb_tup emb_int) (by decide)))
        case c5 => walk_at "ev"
        case c6 => exact EvP.b (EvP.is (d := .tup []) (by walk_at "ev") rfl)
  case rest =>
  clear hok hl hard
  rintro hard ⟨hok, hl⟩
  refine st_seq (st_seto (by decide) (evo_lc (vs := [7]) (f := fun i : Nat => D.int i) (Rel := fun (_ : Nat) o => ∃ s : List Int × Int, (ClOk n s.1 ∧ 1 ≤ s.2 ∧ s.2 ≤ wt) ∧ o = some (softD s)) (φ := fun xs => xs.length ≤ softs) ?e1 ?e2 ?e3 ?e4))
  case e1 => intro i hi m hm; simp at hi; subst hi; cases hm; rfl
  case e2 =>
    refine wkn_rng1 (evn_draw (i := 0) (m := (softs : Int) + 1) rfl (by walk_at "ev") (by omega) (by omega) fun v v0 v1 => ⟨v.toNat, by show D.int v = _; congr 1; omega, by omega, rfl, List.range v.toNat, ?e5, by simp; omega, by simp; omega⟩)
    case e5 => unfold rgD; simp
  case e3 =>
    intro xs hx a ha
    refine ⟨_, gt_name, tpn_yes ⟨rfl, fun z => (by cases z), fun _ => ?e6⟩⟩
    refine evn_tup (apn_cons (evn_poolC (φ := PoolD) rfl (ds := [.int n, .int 3]) (by walk_at "ev") ⟨n, 3, rfl, n3, fun c hc => ?e7⟩))
    refine apn_cons (evn_op (EvP.n (d := .int 1) (by walk_at "ev") (evn_draw (i := 0) (m := wt) rfl (by walk_at "ev") (by omega) (by omega) fun v v0 v1 => ⟨.int (1 + v), v_add, apn_nil ⟨by simp, rfl, (c, 1 + v), ⟨hc, by show 1 ≤ 1 + v; omega, by show 1 + v ≤ (wt : Int); omega⟩, rfl⟩⟩)))
  case e4 =>
  intro xs ds hx hs
  obtain ⟨soft, rfl, sok, slen⟩ := sel_some hs
  have sl : soft.length ≤ softs := by omega
  clear hs slen hx xs
  show StN K [0] _ [M.e PoolD, .d (.int most), .d (.int hards), .d (.int softs), .d (.int wt), .d (.int n), .o (.lst (hard.map clD)), .no, .no, .o (.lst (soft.map softD))] _
  exact st_retP (d := problemD ⟨n, hard, soft⟩) (by walk_at "ev") ⟨le_rt rfl, hR ⟨n, hard, soft⟩ ⟨n1, n2, hok, sok, hl, sl⟩⟩
end
open PySem L2 Evl PyProof.Rows Dl

section
variable {P : Program} {w : World} {K : PySem.W.Frag} {mg : PySem.Str → Option Value} {base : Heap} {CProblem CModel CProgram : Addr}
theorem evn_pick {S : List M} {R : D → List M → Prop} {te : TE} {x : Int} (h0 : S[0]? = some (.e PoolD)) (tw : EvP K te S (.int x)) (r : ∀ y : Int, y = x ∨ (1 ≤ y ∧ y ≤ 5) → R (.int y) S) :
    EvN K (orE (tOp (rIx K) (tTup (tCons te (tCons (tOp (addU K) (tC (.int 1)) (tCall (spD K ct_draw) [] E0 (tCons (tVar 0) (tCons (tC (.int 5)) tNil)))) tNil))) (tCall (spD K ct_draw) [] E0 (tCons (tVar 0) (tCons (tC (.int 2)) tNil))))
      (tDGet (tTup (tCons te (tCons (tOp (addU K) (tC (.int 1)) (tCall (spD K ct_draw) [] E0 (tCons (tVar 0) (tCons (tC (.int 5)) tNil)))) tNil))) (tCall (spD K ct_draw) [] E0 (tCons (tVar 0) (tCons (tC (.int 2)) tNil))))) S R := by
  refine evn_ix (evn_op (evn_tup (apn_cons (tw.n (apn_cons (evn_op (EvP.n (d := .int 1) evp_int (evn_draw (i := 0) (m := 5) h0 evp_int (by decide) (by decide) fun y y0 y1 => ?_))))))))
  refine ⟨.int (1 + y), v_add, apn_nil ⟨by simp, evn_draw (i := 0) (m := 2) h0 evp_int (by decide) (by decide) fun q q0 q1 => ?_⟩⟩
  have hq : q = 0 ∨ q = 1 := by omega
  rcases hq with rfl | rfl
  · exact ⟨.int x, v_ixt rfl, r x (.inl rfl)⟩
  · exact ⟨.int (1 + y), v_ixt rfl, r (1 + y) (.inr ⟨by omega, by omega⟩)⟩
abbrev s_law_doubled : Stmt := top 53
theorem sc_law_doubled : FnScope ["pool", "count", "hard", "soft", "clause", "weight"] ["pool", "count", "hard", "soft"] (defScope s_law_doubled) := ⟨rfl, rfl, rfl, by decide +kernel, rfl, by decide +kernel, by decide +kernel⟩
def ct_dbl : Ct := fun S R => ∃ (most hards softs wt : Nat) (p : Pb), S = [.e PoolD, .d (.int p.count), .d (.tup (p.hard.map clD)), .d (.tup (p.soft.map softD))] ∧ PbB most hards softs wt p ∧ most ≤ 300 ∧ hards ≤ 1000 ∧ softs ≤ 1000 ∧
  ∀ p' : Pb, PbB most (hards + 1) (softs + 1) (max wt 5) p' → p'.count = p.count → R (problemD p') [.e PoolD, .no, .no, .no]
theorem c_law_doubled (F : FunAt K mg "_law_doubled" s_law_doubled ["pool", "count", "hard", "soft"]) (T : Txt K mg CProblem CModel CProgram)
    (c_law_draw : Cal P w K mg base "_law_draw" 1 ["pool", "size"] (spD K (ct_draw)))
    : Cal P w K mg base "_law_doubled" 2 ["pool", "count", "hard", "soft"] (spD K (ct_dbl)) := by
  refine okC F sc_law_doubled (fun S R h => ?_) fun f cdv A outer s H E hr => ?_
  · obtain ⟨most, hards, softs, wt, p, rfl, pb, m1, h1, s1, hR⟩ := h; rfl
  have hu1 := hu1_of hr; have hu64 := hu64_of hr; have hu65 := hu65_of hr
  refine ⟨_, (by exact (pss_cons (by exact (ps_if (by exact (PW.pt (by exact (by exact (pw_and (by exact (kt_ne (K := K) rfl hu64 (by exact (pv 2)) (by exact (pe_tup pa_nil)))) (by exact (pw_and1 (by exact (kt_eq (K := K) rfl hu64 (by exact (pe_cal c_law_draw (hr.mono (by first | decide | omega)) (by rfl) (by exact (pa_cons (by exact (pv 0)) (by exact (pa_cons (by exact pe_int) pa_nil (by rfl))) (by rfl))))) (by exact pe_int)))))))))) (by exact (pss_one (by exact (ps_set (i := 2) sc_law_doubled.nd rfl (Or.inl rfl) (by exact (k_add (K := K) rfl (by exact (pv 2)) (by exact (pe_tup (by exact (pa_cons (by exact (k_sub (K := K) rfl hu1 (by exact (pv 2)) (by exact (pe_cal c_law_draw (hr.mono (by first | decide | omega)) (by rfl) (by exact (pa_cons (by exact (pv 0)) (by exact (pa_cons (by exact (k_callB (kr_len (K := K) rfl) (by rfl) T.n_len (by decide +kernel) (by exact (pa_cons (by exact (pv 2)) pa_nil (by rfl))) (by decide) (by decide) (by rfl) (by rfl))) pa_nil (by rfl))) (by rfl))))) (fun _ _ => rfl) (fun _ _ => rfl))) pa_nil (by rfl))))))))))) pss_nil))
      (by exact (pss_cons (by exact (ps_if (by exact (PW.pt (by exact (by exact (pw_and (by exact (kt_ne (K := K) rfl hu64 (by exact (pv 3)) (by exact (pe_tup pa_nil)))) (by exact (pw_and1 (by exact (pt_cmpR op_gt (by exact (pe_cal c_law_draw (hr.mono (by first | decide | omega)) (by rfl) (by exact (pa_cons (by exact (pv 0)) (by exact (pa_cons (by exact pe_int) pa_nil (by rfl))) (by rfl))))) (by exact pe_int) (nomark _)))))))))) (by exact (pss_cons (by exact (ps_asg (by exact (k_sub (K := K) rfl hu1 (by exact (pv 3)) (by exact (pe_cal c_law_draw (hr.mono (by first | decide | omega)) (by rfl) (by exact (pa_cons (by exact (pv 0)) (by exact (pa_cons (by exact (k_callB (kr_len (K := K) rfl) (by rfl) T.n_len (by decide +kernel) (by exact (pa_cons (by exact (pv 3)) pa_nil (by rfl))) (by decide) (by decide) (by rfl) (by rfl))) pa_nil (by rfl))) (by rfl))))) (fun _ _ => rfl) (fun _ _ => rfl))) (by exact (k_tup (K := K) (n := 2) rfl rfl (by exact (pgs_cons (by exact (pg_name (i := 4) sc_law_doubled.nd rfl (Or.inl rfl))) (by exact (pgs_cons (by exact (pg_name (i := 5) sc_law_doubled.nd rfl (Or.inl rfl))) pgs_nil)))) (by rfl) (by rfl)))))
      (by exact (pss_one (by exact (ps_set (i := 3) sc_law_doubled.nd rfl (Or.inl rfl) (by exact (k_add (K := K) rfl (by exact (pv 3)) (by exact (pe_tup (by exact (pa_cons (by exact (pe_tup (by exact (pa_cons (by exact (pv 4)) (by exact (pa_cons (by exact (k_sub (K := K) rfl hu1 (by exact (pe_tup (by exact (pa_cons (by exact (pv 5)) (by exact (pa_cons (by exact (k_add (K := K) rfl (by exact pe_int) (by exact (pe_cal c_law_draw (hr.mono (by first | decide | omega)) (by rfl) (by exact (pa_cons (by exact (pv 0)) (by exact (pa_cons (by exact pe_int) pa_nil (by rfl))) (by rfl))))))) pa_nil (by rfl))) (by rfl))))) (by exact (pe_cal c_law_draw (hr.mono (by first | decide | omega)) (by rfl) (by exact (pa_cons (by exact (pv 0)) (by exact (pa_cons (by exact pe_int) pa_nil (by rfl))) (by rfl))))) (fun _ _ => rfl) (fun _ _ => rfl))) pa_nil (by rfl))) (by rfl))))) pa_nil (by rfl))))))))))))) pss_nil))
      (by exact (pss_one (by exact (ps_ret (by exact (pe_tup (by exact (pa_cons (by exact (pv 1)) (by exact (pa_cons (by exact (pv 2)) (by exact (pa_cons (by exact (pv 3)) pa_nil (by rfl))) (by rfl))) (by rfl))))))))))))), fun S R h => ?_⟩
  clear hu1 hu64 hu65 hr F T
  obtain ⟨most, hards, softs, wt, p, rfl, pb, m1, h1, s1, hR⟩ := h
  refine ⟨[0], by decide, fun i hi m' hm' => (by simp at hi; subst hi; cases hm'; rfl), ?_⟩
  refine st_imp (show slot0 _ [M.e PoolD, .d (.int p.count), .d (.tup (p.hard.map clD)), .d (.tup (p.soft.map softD))] = [M.e PoolD, .d (.int p.count), .d (.tup (p.hard.map clD)), .d (.tup (p.soft.map softD)), .no, .no] from rfl) ?_
  have hl := pb.hl; have sl := pb.sl
  have at_ : ∀ {α : Type} (g : α → D) (l : List α) (v : Int), 0 ≤ v → v < l.length → ∃ a, a ∈ l ∧ atI (l.map g) v = some (g a) := fun g l v v0 v1 => by
    obtain ⟨j, rfl⟩ : ∃ j : Nat, v = (j : Int) := ⟨v.toNat, by omega⟩
    have hj : j < l.length := by omega
    exact ⟨l[j], List.getElem_mem hj, atI_nat (by rw [List.getElem?_map, List.getElem?_eq_getElem hj]; rfl)⟩
  refine st_seqA (α := List (List Int)) (fun hd => [M.e PoolD, .d (.int p.count), .d (.tup (hd.map clD)), .d (.tup (p.soft.map softD)), .no, .no]) (fun hd => (∀ c ∈ hd, ClOk p.count c) ∧ hd.length ≤ hards + 1) ?rest ?first
  case first =>
    intro rest
    refine st_if (tpn_and (TpP.n (b := !decide (p.hard = [])) ?a1 ⟨fun hb => ?a2, fun _ => ⟨fun z => (by cases z), fun _ => st_nil (rest p.hard ⟨pb.hard, by omega⟩)⟩⟩))
    case a1 =>
      refine' tpp_test (evp_op (x := .tup (p.hard.map clD)) (y := .tup (([] : List (List Int)).map clD)) ?a3 ?a4 (v_neT (emb_tup (emb_tup emb_int)) (by decide)))
      case a3 => walk_at "ev"
      case a4 => exact EvP.b (EvP.is (d := .tup []) (by walk_at "ev") rfl)
    case a2 =>
    have hpos : 0 < p.hard.length := by
      rw [Bool.not_eq_true'] at hb
      exact List.length_pos_iff.mpr (of_decide_eq_false hb)
    refine tpn_test (evn_op (evn_draw (i := 0) (m := 2) rfl (by walk_at "ev") (by decide) (by decide) fun v v0 v1 => EvP.n (d := .int 0) (by walk_at "ev") ⟨_, v_eqi, _, rfl, fun _ => ?a5, fun _ => st_nil (rest p.hard ⟨pb.hard, by omega⟩)⟩))
    case a5 =>
    refine st_set (by decide) (evn_op (EvP.n (d := .tup (p.hard.map clD)) (by walk_at "ev") (evn_tup (apn_cons (evn_ix (evn_op (EvP.n (d := .tup (p.hard.map clD)) (by walk_at "ev") (evn_draw (i := 0) (m := ((p.hard.map clD).length : Nat)) rfl (by walk_at "ev") (by rw [List.length_map]; omega) (by rw [List.length_map]; omega) fun u u0 u1 => ?a6))))))))
    case a6 =>
    rw [List.length_map] at u1
    obtain ⟨c, hc, ha⟩ := at_ clD p.hard u u0 u1
    refine ⟨clD c, v_ixt ha, apn_nil ⟨by simp, .tup ((p.hard ++ [c]).map clD), ?a7, rest (p.hard ++ [c]) ⟨fun x hx => ?a8, by rw [List.length_append, List.length_singleton]; omega⟩⟩⟩
    case a7 =>
      have := v_catt (K := K) (xs := p.hard.map clD) (ys := [clD c]) (by simp; omega)
      rwa [show (p.hard.map clD) ++ [clD c] = (p.hard ++ [c]).map clD by simp] at this
    case a8 =>
      rcases List.mem_append.mp hx with z | z
      · exact pb.hard x z
      · rw [List.mem_singleton] at z; rw [z]; exact pb.hard c hc
  case rest =>
  rintro hard ⟨hok, hhl⟩
  refine st_seqA (α := List (List Int × Int) × M × M) (fun z => [M.e PoolD, .d (.int p.count), .d (.tup (hard.map clD)), .d (.tup (z.1.map softD)), z.2.1, z.2.2]) (fun z => (∀ s ∈ z.1, ClOk p.count s.1 ∧ 1 ≤ s.2 ∧ s.2 ≤ (max wt 5 : Nat)) ∧ z.1.length ≤ softs + 1) ?rest2 ?first2
  case rest2 =>
    rintro ⟨soft, a4, a5⟩ ⟨sok, ssl⟩
    exact st_retP (d := problemD ⟨p.count, hard, soft⟩) (by walk_at "ev") ⟨le_rt rfl, hR ⟨p.count, hard, soft⟩ ⟨pb.c1, pb.cnt, hok, sok, hhl, ssl⟩ rfl⟩
  case first2 =>
  intro rest
  have same : ∀ s ∈ p.soft, ClOk p.count s.1 ∧ 1 ≤ s.2 ∧ s.2 ≤ (max wt 5 : Nat) := fun s hs => by
    have := pb.soft s hs
    exact ⟨this.1, this.2.1, by have := this.2.2; omega⟩
  refine st_if (tpn_and (TpP.n (b := !decide (p.soft = [])) ?b1 ⟨fun hb => ?b2, fun _ => ⟨fun z => (by cases z), fun _ => st_nil (rest (p.soft, .no, .no) ⟨same, by show p.soft.length ≤ softs + 1; omega⟩)⟩⟩))
  case b1 =>
    refine' tpp_test (evp_op (x := .tup (p.soft.map softD)) (y := .tup (([] : List (List Int × Int)).map softD)) ?b3 ?b4 (v_neT (emb_tup (emb_pair (emb_tup emb_int) emb_int)) (by decide)))
    case b3 => walk_at "ev"
    case b4 => exact EvP.b (EvP.is (d := .tup []) (by walk_at "ev") rfl)
  case b2 =>
  have hpos : 0 < p.soft.length := by
    rw [Bool.not_eq_true'] at hb
    exact List.length_pos_iff.mpr (of_decide_eq_false hb)
  refine tpn_test (evn_op (evn_draw (i := 0) (m := 3) rfl (by walk_at "ev") (by decide) (by decide) fun v v0 v1 => EvP.n (d := .int 0) (by walk_at "ev") ⟨_, v_gt, _, rfl, fun _ => ?b5, fun _ => st_nil (rest (p.soft, .no, .no) ⟨same, by show p.soft.length ≤ softs + 1; omega⟩)⟩))
  case b5 =>
  refine st_seq (st_asg (vs := [4, 5]) (by decide) (evn_ix (evn_op (EvP.n (d := .tup (p.soft.map softD)) (by walk_at "ev") (evn_draw (i := 0) (m := ((p.soft.map softD).length : Nat)) rfl (by walk_at "ev") (by rw [List.length_map]; omega) (by rw [List.length_map]; omega) fun u u0 u1 => ?b6)))))
  case b6 =>
  rw [List.length_map] at u1
  obtain ⟨s, hs, ha⟩ := at_ softD p.soft u u0 u1
  refine ⟨softD s, v_ixt ha, _, gt_pair, ?b7⟩
  case b7 =>
  obtain ⟨k1, k2, k3⟩ := same s hs
  have fin : ∀ x : Int, 1 ≤ x → x ≤ (max wt 5 : Nat) → ∃ d, V2P K (addU K) (.tup (p.soft.map softD)) (.tup [.tup [clD s.1, .int x]]) d ∧ StN K [0] (tRet (tTup (tCons (tVar 1) (tCons (tVar 2) (tCons (tVar 3) tNil))))) [M.e PoolD, .d (.int p.count), .d (.tup (hard.map clD)), .d d, .d (clD s.1), .d (.int s.2)]
      ⟨fun S' => 4 ≤ S'.length ∧ R .non (outM [0] 0 4 S'), fun d S' => 4 ≤ S'.length ∧ R d (outM [0] 0 4 S'), fun _ => False, fun _ => False⟩ := fun x x1 x2 => by
    refine ⟨.tup ((p.soft ++ [(s.1, x)]).map softD), ?_, rest (p.soft ++ [(s.1, x)], .d (clD s.1), .d (.int s.2)) ⟨fun y hy => ?_, by show (p.soft ++ [(s.1, x)]).length ≤ softs + 1; rw [List.length_append, List.length_singleton]; omega⟩⟩
    · have := v_catt (K := K) (xs := p.soft.map softD) (ys := [softD (s.1, x)]) (by simp; omega)
      rwa [show (p.soft.map softD) ++ [softD (s.1, x)] = (p.soft ++ [(s.1, x)]).map softD by simp] at this
    · rcases List.mem_append.mp hy with z | z
      · exact same y z
      · rw [List.mem_singleton] at z; rw [z]; exact ⟨k1, x1, x2⟩
  refine st_set (by decide) (evn_op (EvP.n (d := .tup (p.soft.map softD)) (evp_var rfl) ?b8))
  case b8 =>
  refine evn_tup (apn_cons (evn_tup (apn_cons (EvP.n (d := clD s.1) (evp_var rfl) ?b9))))
  case b9 =>
  refine apn_cons (evn_pick rfl (x := s.2) (evp_var rfl) fun y hy => ?b10)
  case b10 =>
  exact apn_nil ⟨by simp, apn_nil ⟨by simp, fin y (by omega) (by omega)⟩⟩
abbrev s_law_rows : Stmt := top 54
theorem sc_law_rows : FnScope ["count", "found", "turn", "longer", "own"] ["count"] (defScope s_law_rows) := ⟨rfl, rfl, rfl, by decide +kernel, rfl, by decide +kernel, by decide +kernel⟩
def ct_rows : Ct := fun S R => ∃ n : Nat, S = [.d (.int n)] ∧ n ≤ 12 ∧ R (.lst ((rows n).map clD)) [.no]
theorem c_law_rows (F : FunAt K mg "_law_rows" s_law_rows ["count"]) (T : Txt K mg CProblem CModel CProgram)
    : Cal P w K mg base "_law_rows" 1 ["count"] (spD K (ct_rows)) := by
  refine okC F sc_law_rows (fun S R h => ?_) fun f cdv A outer s H E hr => ?_
  · obtain ⟨n, rfl, hn, hR⟩ := h; rfl
  have hu1 := hu1_of hr; have hu64 := hu64_of hr; have hu65 := hu65_of hr
  refine ⟨_, (by exact (pss_cons (by exact (ps_set (i := 1) sc_law_rows.nd rfl (Or.inl rfl) (by exact (pe_lst (by exact (pa_cons (by exact (pe_tup pa_nil)) pa_nil (by rfl)))))))
      (by exact (pss_cons (by exact (ps_for PassesOwn.never rfl (by exact (pi_range1 rfl T.n_range (by exact (pa_cons (by exact (pv 0)) pa_nil (by rfl))))) (by exact (pg_name (i := 2) sc_law_rows.nd rfl (Or.inl rfl))) (by exact (pss_cons (by exact (ps_set (i := 3) sc_law_rows.nd rfl (Or.inl rfl) (by exact (pe_lst pa_nil))))
      (by exact (pss_cons (by exact (ps_for PassesOwn.never rfl (by exact (k_sq (K := K) rfl (by exact (pv 1)))) (by exact (pg_name (i := 4) sc_law_rows.nd rfl (Or.inl rfl))) (by exact (pss_one (by exact (ps_set (i := 3) sc_law_rows.nd rfl (Or.inl rfl) (by exact (k_add (K := K) rfl (by exact (pv 3)) (by exact (pe_lst (by exact (pa_cons (by exact (k_add (K := K) rfl (by exact (pv 4)) (by exact (pe_tup (by exact (pa_cons (by exact pe_int) pa_nil (by rfl))))))) (by exact (pa_cons (by exact (k_add (K := K) rfl (by exact (pv 4)) (by exact (pe_tup (by exact (pa_cons (by exact pe_int) pa_nil (by rfl))))))) pa_nil (by rfl))) (by rfl)))))))))))))
      (by exact (pss_one (by exact (ps_set (i := 1) sc_law_rows.nd rfl (Or.inl rfl) (by exact (pv 3))))))))))))
      (by exact (pss_one (by exact (ps_ret (by exact (pv 1)))))))))), fun S R h => ?_⟩
  clear hu1 hu64 hu65 hr F T
  obtain ⟨n, rfl, hn, hR⟩ := h
  refine ⟨[], by decide, fun i hi => (by cases hi), ?_⟩
  refine st_imp (show slot0 _ [M.d (.int n)] = [M.d (.int n), .no, .no, .no, .no] from rfl) ?_
  refine st_seq (st_setF (d := .lst [.tup []]) (by decide) (by walk_at "ev") ?u1)
  case u1 =>
  refine st_frz (i := 1) rfl rfl (by decide) ?_
  refine st_seq (st_for (vs := [2]) (fun i S' => i ≤ n ∧ ∃ (a2 a3 a4 : M), S' = [M.d (.int n), .d (.lst ((rows i).map clD)), a2, a3, a4] ∧ a3.own = false) (wkp_rng1 (n := n) (by walk_at "ev") (by omega)) (by decide) ⟨Nat.zero_le _, .no, .no, .no, rfl, rfl⟩ ?u2 ?u3)
  case u3 =>
    rintro S' ⟨hi, a2, a3, a4, rfl, -⟩
    have e : (rgD 0 n).length = n := by simp [rgD]
    rw [e]
    exact st_retP (d := .lst ((rows n).map clD)) (by walk_at "ev") ⟨le_rt rfl, hR⟩
  case u2 =>
  rintro i d S' hd ⟨hi, a2, a3, a4, rfl, o3⟩
  obtain ⟨hlt, rfl⟩ := rgD_get hd
  refine ⟨_, gt_name, ?_⟩
  refine st_seq (st_setF (d := .lst []) (by decide) (by walk_at "ev") ?v1)
  case v1 =>
  have hlen : (rows i).length ≤ 4096 := by
    rw [rows_len]
    exact Nat.le_trans (Nat.pow_le_pow_right (by decide) hi) (Nat.le_trans (Nat.pow_le_pow_right (by decide) hn) (by decide))
  show StN K [] _ [M.d (.int n), .d (.lst ((rows i).map clD)), .d (.int (0 + (i : Nat))), .o (.lst []), a4] _
  refine st_seq (st_forT (vs := [4]) (xs := rows i) (f := clD) (fun pre S' => ∃ a4 : M, S' = [M.d (.int n), .d (.lst ((rows i).map clD)), .d (.int (0 + (i : Nat))), .o (.lst ((pre.flatMap fun v => [v ++ [0], v ++ [1]]).map clD)), a4]) ?v2 (by decide) ⟨a4, rfl⟩ ?v3 ?v4)
  case v2 => walk_at "wk"
  case v4 =>
    rintro S' ⟨a4, rfl⟩
    refine st_frz (i := 3) rfl rfl (by decide) ?_
    refine st_setP (d := .lst (((rows i).flatMap fun v => [v ++ [0], v ++ [1]]).map clD)) (by decide) (evp_var rfl) ⟨by omega, .d (.int (0 + (i : Nat))), .d (.lst ((rows (i + 1)).map clD)), a4, rfl, rfl⟩
  case v3 =>
    rintro pre v post S' e ⟨a4, rfl⟩
    refine ⟨_, gt_name, ?_⟩
    have hv := (rows_val i v (by rw [e]; simp)).len
    have hpre : pre.length ≤ 4096 := by
      have := congrArg List.length e
      rw [List.length_append, List.length_cons] at this
      omega
    have dbl : ∀ l : List (List Int), (l.flatMap fun v => [v ++ [0], v ++ [1]]).length = 2 * l.length := fun l => by
      induction l with
      | nil => rfl
      | cons a l ih => rw [List.flatMap_cons, List.length_append, ih]; simp; omega
    have hb := dbl pre
    have vl : (v.map D.int).length ≤ 12 := by rw [List.length_map]; omega
    refine' st_setF (d := .lst (((pre ++ [v]).flatMap fun v => [v ++ [0], v ++ [1]]).map clD)) (by decide) (EvF.is (evf_op (x := .lst ((pre.flatMap fun v => [v ++ [0], v ++ [1]]).map clD)) (y := .lst [clD (v ++ [0]), clD (v ++ [1])]) ?w1 ?w2 (v_cat ?w3)) ?w4) ⟨.d (clD v), rfl⟩
    case w1 => walk_at "ev"
    case w3 => rw [List.length_map, hb]; simp; omega
    case w4 => rw [List.flatMap_append, List.map_append]; simp
    case w2 =>
      have ap : ∀ b : Int, V2P K (addU K) (clD v) (.tup [.int b]) (clD (v ++ [b])) := fun b => by
        have := v_catt (K := K) (xs := v.map D.int) (ys := [.int b]) (by simp at *; omega)
        rwa [show (v.map D.int) ++ [D.int b] = (v ++ [b]).map D.int by simp] at this
      refine' EvP.b (EvF.p (evf_lst (app_cons (evp_op (x := clD v) (y := .tup [.int 0]) ?w5 ?w6 (ap 0)) (app_cons (evp_op (x := clD v) (y := .tup [.int 1]) ?w7 ?w8 (ap 1)) app_nil)) (by simp)))
      case w5 => walk_at "ev"
      case w6 => walk_at "ev"
      case w7 => walk_at "ev"
      case w8 => walk_at "ev"
abbrev s_law_holds : Stmt := top 55
theorem sc_law_holds : FnScope ["clause", "values", "literal"] ["clause", "values"] (defScope s_law_holds) := ⟨rfl, rfl, rfl, by decide +kernel, rfl, by decide +kernel, by decide +kernel⟩
theorem c_law_holds (F : FunAt K mg "_law_holds" s_law_holds ["clause", "values"]) (T : Txt K mg CProblem CModel CProgram)
    : Cal P w K mg base "_law_holds" 1 ["clause", "values"] (spD K (ct_holds)) := by
  refine okC F sc_law_holds (fun S R h => ?_) fun f cdv A outer s H E hr => ?_
  · obtain ⟨c, v, rfl, hc, hl, hR⟩ := h; rfl
  have hu1 := hu1_of hr; have hu64 := hu64_of hr; have hu65 := hu65_of hr
  refine ⟨_, (by exact (pss_cons (by exact (ps_for PassesOwn.never rfl (by exact (k_sq (K := K) rfl (by exact (pv 0)))) (by exact (pg_name (i := 2) sc_law_holds.nd rfl (Or.inl rfl))) (by exact (pss_one (by exact (ps_if (by exact (kt_eq (K := K) rfl hu64 (by exact (k_sub (K := K) rfl hu1 (by exact (pv 1)) (by exact (pe_op op_sub (by exact (k_callB cr_absI (by rfl) T.n_abs (by decide +kernel) (by exact (pa_cons (by exact (pv 2)) pa_nil (by rfl))) (by decide) (by decide) (by rfl) (by rfl))) (by exact pe_int))) (fun _ _ => rfl) (fun _ _ => rfl))) (by exact (k_callTy cr_intU (by rfl) T.n_int (by decide +kernel) (by exact (pa_cons (by exact (pe_cmpR op_gt (by exact (pv 2)) (by exact pe_int) (nomark _))) pa_nil (by rfl))) (by decide) (by decide) (by rfl) (by rfl))))) (by exact (pss_one (by exact (ps_ret (by exact pe_bl))))) pss_nil))))))
      (by exact (pss_one (by exact (ps_ret (by exact pe_bl))))))), fun S R h => ?_⟩
  clear hu1 hu64 hu65 hr F T
  obtain ⟨c, v, rfl, hc, hl, hR⟩ := h
  refine ⟨[], by decide, fun i hi => (by cases hi), ?_⟩
  refine st_imp (show slot0 _ [M.d (clD c), .d (clD v)] = [M.d (clD c), .d (clD v), .no] from rfl) ?_
  refine st_seq (st_forT (vs := [2]) (xs := c) (f := D.int) (fun pre S' => (pre.any fun l => litB l v) = false ∧ ∃ a : M, S' = [M.d (clD c), .d (clD v), a]) ?u1 (by decide) ⟨rfl, .no, rfl⟩ ?u2 ?u3)
  case u1 => walk_at "wk"
  case u3 =>
    rintro S' ⟨h, a, rfl⟩
    refine st_retP (d := .bl false) (by walk_at "ev") ⟨le_rt rfl, ?_⟩
    unfold holdsB at hR
    rw [h] at hR
    exact hR
  case u2 =>
    rintro pre l post S' e ⟨h, a, rfl⟩
    have hat := at_lit (hc l (by rw [e]; simp))
    refine ⟨_, gt_name, ?_⟩
    refine' st_ifP (b := litB l v) ?u4 (fun hb => ?u5) fun hb => st_nil ⟨?u6, _, rfl⟩
    case u4 =>
      unfold litB
      walk_at "ev"
    case u6 => rw [List.any_append, h]; simp [hb]
    case u5 =>
      refine st_retP (d := .bl true) (by walk_at "ev") ⟨le_rt rfl, ?_⟩
      have e2 : holdsB c v = true := by
        unfold holdsB
        rw [e, List.any_append, List.any_cons, hb]
        simp
      rw [e2] at hR
      exact hR
abbrev s_law_good : Stmt := top 56
theorem sc_law_good : FnScope ["hard", "values", "clause"] ["hard", "values"] (defScope s_law_good) := ⟨rfl, rfl, rfl, by decide +kernel, rfl, by decide +kernel, by decide +kernel⟩
def ct_good : Ct := fun S R => ∃ (hard : List (List Int)) (v : List Int), S = [.d (.tup (hard.map clD)), .d (clD v)] ∧ (∀ c ∈ hard, ClOk v.length c) ∧ v.length ≤ 300 ∧ R (.bl (goodB hard v)) [.no, .no]
theorem c_law_good (F : FunAt K mg "_law_good" s_law_good ["hard", "values"]) (T : Txt K mg CProblem CModel CProgram)
    (c_law_holds : Cal P w K mg base "_law_holds" 1 ["clause", "values"] (spD K (ct_holds)))
    : Cal P w K mg base "_law_good" 2 ["hard", "values"] (spD K (ct_good)) := by
  refine okC F sc_law_good (fun S R h => ?_) fun f cdv A outer s H E hr => ?_
  · obtain ⟨hard, v, rfl, hc, hv, hR⟩ := h; rfl
  have hu1 := hu1_of hr; have hu64 := hu64_of hr; have hu65 := hu65_of hr
  refine ⟨_, (by exact (pss_cons (by exact (ps_for PassesOwn.never rfl (by exact (k_sq (K := K) rfl (by exact (pv 0)))) (by exact (pg_name (i := 2) sc_law_good.nd rfl (Or.inl rfl))) (by exact (pss_one (by exact (ps_if (by exact (pt_not (by exact (k_tr (K := K) rfl (by exact (pe_cal c_law_holds (hr.mono (by first | decide | omega)) (by rfl) (by exact (pa_cons (by exact (pv 2)) (by exact (pa_cons (by exact (pv 1)) pa_nil (by rfl))) (by rfl))))) (fun _ => rfl))))) (by exact (pss_one (by exact (ps_ret (by exact pe_bl))))) pss_nil))))))
      (by exact (pss_one (by exact (ps_ret (by exact pe_bl))))))), fun S R h => ?_⟩
  clear hu1 hu64 hu65 hr F T
  obtain ⟨hard, v, rfl, hc, hv, hR⟩ := h
  refine ⟨[], by decide, fun i hi => (by cases hi), ?_⟩
  refine st_imp (show slot0 _ [M.d (.tup (hard.map clD)), .d (clD v)] = [M.d (.tup (hard.map clD)), .d (clD v), .no] from rfl) ?_
  refine st_seq (st_forT (vs := [2]) (xs := hard) (f := clD) (fun pre S' => goodB pre v = true ∧ ∃ a : M, S' = [M.d (.tup (hard.map clD)), .d (clD v), a]) ?u1 (by decide) ⟨rfl, .no, rfl⟩ ?u2 ?u3)
  case u1 => walk_at "wk"
  case u3 =>
    rintro S' ⟨h, a, rfl⟩
    refine st_retP (d := .bl true) (by walk_at "ev") ⟨le_rt rfl, ?_⟩
    rw [h] at hR
    exact hR
  case u2 =>
    rintro pre c post S' e ⟨h, a, rfl⟩
    have hco := hc c (by rw [e]; simp)
    have hlit := hco.lit
    have hcl := hco.len
    refine ⟨_, gt_name, ?_⟩
    refine' st_ifP (b := !holdsB c v) ?u4 (fun hb => ?u5) fun hb => st_nil ⟨?u6, _, rfl⟩
    case u4 =>
      refine' tpp_not (tpp_tr (d := .bl (holdsB c v)) ?u7 rfl)
      case u7 => walk_at "ev"
    case u6 =>
      rw [Bool.not_eq_false'] at hb
      unfold goodB at *
      rw [List.all_append, h]
      simp [hb]
    case u5 =>
      refine st_retP (d := .bl false) (by walk_at "ev") ⟨le_rt rfl, ?_⟩
      rw [Bool.not_eq_true'] at hb
      have e2 : goodB hard v = false := by
        unfold goodB
        rw [e, List.all_append, List.all_cons, hb]
        simp
      rw [e2] at hR
      exact hR
abbrev s_law_price : Stmt := top 57
theorem sc_law_price : FnScope ["soft", "values", "clause", "weight"] ["soft", "values"] (defScope s_law_price) := ⟨rfl, rfl, rfl, by decide +kernel, rfl, by decide +kernel, by decide +kernel⟩
def softP (soft : List (List Int × Int)) (v : List Int) : Int := ((soft.filter fun s => !holdsB s.1 v).map fun s => s.2).sum
def ct_lprice : Ct := fun S R => ∃ (soft : List (List Int × Int)) (v : List Int), S = [.d (.tup (soft.map softD)), .d (clD v)] ∧ (∀ s ∈ soft, ClOk v.length s.1) ∧ v.length ≤ 300 ∧ soft.length ≤ 1000 ∧ R (.int (softP soft v)) [.no, .no]
theorem c_law_price (F : FunAt K mg "_law_price" s_law_price ["soft", "values"]) (T : Txt K mg CProblem CModel CProgram)
    (c_law_holds : Cal P w K mg base "_law_holds" 1 ["clause", "values"] (spD K (ct_holds)))
    : Cal P w K mg base "_law_price" 2 ["soft", "values"] (spD K (ct_lprice)) := by
  refine okC F sc_law_price (fun S R h => ?_) fun f cdv A outer s H E hr => ?_
  · obtain ⟨soft, v, rfl, hs, hv, hl, hR⟩ := h; rfl
  have hu1 := hu1_of hr; have hu64 := hu64_of hr; have hu65 := hu65_of hr
  refine ⟨_, (by exact (pss_one (by exact (ps_ret (by exact (k_callB (kr_sum (K := K) rfl rfl) (by rfl) T.n_sum (by decide +kernel) (by exact (pa_cons (by exact (pe_lc (own := [("clause", 2), ("weight", 3)]) rfl sc_law_price.nd (by exact (k_sq (K := K) rfl (by exact (pv 0)))) (blkOk_by (own := [("clause", 2), ("weight", 3)]) (by kernel_rfl)) (by intros; exact (by exact (k_tup (K := K) (n := 2) rfl rfl (by exact (pgs_cons (by exact (pg_name (i := 2) sc_law_price.nd rfl (Or.inl rfl))) (by exact (pgs_cons (by exact (pg_name (i := 3) sc_law_price.nd rfl (Or.inl rfl))) pgs_nil)))) (by rfl) (by rfl)))) (by intros; exact pts_one (by exact (pt_not (by exact (k_tr (K := K) rfl (by exact (pe_cal c_law_holds (hr.mono (by first | decide | omega)) (by rfl) (by exact (pa_cons (by exact (pv 2)) (by exact (pa_cons (by exact (pv 1)) pa_nil (by rfl))) (by rfl))))) (fun _ => rfl)))))) (by intros; exact (by exact (pv 3))) (by intro _; rfl))) pa_nil (by rfl))) (by decide) (by decide) (by rfl) (by rfl))))))), fun S R h => ?_⟩
  clear hu1 hu64 hu65 hr F T
  obtain ⟨soft, v, rfl, hs, hv, hl, hR⟩ := h
  refine ⟨[], by decide, fun i hi => (by cases hi), ?_⟩
  refine st_imp (show slot0 _ [M.d (.tup (soft.map softD)), .d (clD v)] = [M.d (.tup (soft.map softD)), .d (clD v), .no, .no] from rfl) ?_
  have hl2 : soft.length ≤ 50000 := by omega
  have s1 : ∀ s ∈ soft, ∀ l ∈ s.1, LitOk v.length l := fun s h => (hs s h).lit
  have s2 : ∀ s ∈ soft, s.1.length ≤ 1000 := fun s h => by have := (hs s h).len; omega
  refine' st_retP (d := .int (softP soft v)) ?u1 ⟨le_rt rfl, hR⟩
  case u1 =>
    unfold softP
    refine' evp_cb ?u2 v_sum
    case u2 =>
      refine' EvP.b (EvF.p (evf_lc (xs := soft) (f := softD) ?u3 hl2 ?u4))
      case u3 => walk_at "wk"
      case u4 =>
        intro s h
        refine ⟨_, gt_pair, ?_, fun _ => evp_var rfl⟩
        have k1 := s1 s h
        have k2 := s2 s h
        refine' tpp_not (tpp_tr (d := .bl (holdsB s.1 v)) ?u7 rfl)
        case u7 => walk_at "ev"
end
open PySem L2 Evl PyProof.Rows Dl

section
variable {P : Program} {w : World} {K : PySem.W.Frag} {mg : PySem.Str → Option Value} {base : Heap} {CProblem CModel CProgram : Addr}
abbrev s_checked_values : Stmt := top 18
theorem sc_checked_values : FnScope ["problem", "values"] ["problem", "values"] (defScope s_checked_values) := ⟨rfl, rfl, rfl, by decide +kernel, rfl, by decide +kernel, by decide +kernel⟩
def ct_chv (C : Addr) : Ct := fun S R => ∃ (p : Pb) (v : List Int) (m : M), S = [m, .d (clD v)] ∧ m.rd (probD C p) ∧ Val p.count v ∧ p.count ≤ 300 ∧ R (clD v) [.no, .no]
theorem c_checked_values (F : FunAt K mg "checked_values" s_checked_values ["problem", "values"]) (T : Txt K mg CProblem CModel CProgram)
    (c_are_values : Cal P w K mg base "are_values" 1 ["values", "count"] (spD K (ct_are_values)))
    : Cal P w K mg base "checked_values" 2 ["problem", "values"] (spD K (ct_chv CProblem)) := by
  refine okC F sc_checked_values (fun S R h => ?_) fun f cdv A outer s H E hr => ?_
  · obtain ⟨p, v, m, rfl, hm, hv, cn, hR⟩ := h; rfl
  have hu1 := hu1_of hr; have hu64 := hu64_of hr; have hu65 := hu65_of hr
  refine ⟨_, (by exact (pss_cons (by exact (ps_set (i := 1) sc_checked_values.nd rfl (Or.inl rfl) (by exact (k_tupleOf (K := K) rfl (by rfl) T.n_tuple (by exact (pv 1)) (by rfl)))))
      (by exact (pss_cons (by exact (ps_if (by exact (pt_not (by exact (k_tr (K := K) rfl (by exact (pe_cal c_are_values (hr.mono (by first | decide | omega)) (by rfl) (by exact (pa_cons (by exact (pv 1)) (by exact (pa_cons (by exact (k_fld (K := K) rfl (by exact (pv 0)) rfl)) pa_nil (by rfl))) (by rfl))))) (fun _ => rfl))))) (by exact (pss_one (by exact ps_never))) pss_nil))
      (by exact (pss_one (by exact (ps_ret (by exact (pv 1)))))))))), fun S R h => ?_⟩
  have tcl_Problem := T.cl_Problem; have tf_Problem_count := T.f_Problem_count
  have tcl_Program := T.cl_Program; have tf_Program_count := T.f_Program_count
  clear hu1 hu64 hu65 hr F T
  obtain ⟨p, v, m, rfl, hm, hv, cn, hR⟩ := h
  refine ⟨[], by decide, fun i hi => (by cases hi), ?_⟩
  refine st_imp (show slot0 _ [m, .d (clD v)] = [m, .d (clD v)] from rfl) ?_
  have hl := hv.len
  refine st_seq (st_setP (d := clD v) (by decide) (by walk_at "ev") ?u1)
  case u1 =>
  refine' st_seq (st_ifP (b := !true) ?u2 (fun z => by cases z) fun _ => st_nil (st_retP (d := clD v) (by walk_at "ev") ⟨le_rt rfl, hR⟩))
  case u2 =>
    refine' tpp_not (tpp_tr (d := .bl true) ?u3 rfl)
    case u3 => walk_at "ev"
abbrev s_broken : Stmt := top 19
theorem sc_broken : FnScope ["problem", "values", "at", "clause"] ["problem", "values"] (defScope s_broken) := ⟨rfl, rfl, rfl, by decide +kernel, rfl, by decide +kernel, by decide +kernel⟩
def ct_broken (C : Addr) : Ct := fun S R => ∃ (p : Pb) (v : List Int) (m : M), S = [m, .d (clD v)] ∧ m.rd (probD C p) ∧ Val p.count v ∧ PbOk p ∧ R (optI (brk p v)) [.no, .no]
theorem c_broken (F : FunAt K mg "broken" s_broken ["problem", "values"]) (T : Txt K mg CProblem CModel CProgram)
    (c_checked_values : Cal P w K mg base "checked_values" 2 ["problem", "values"] (spD K (ct_chv CProblem)))
    (c_holds : Cal P w K mg base "holds" 2 ["clause", "values"] (spD K (ct_holds)))
    : Cal P w K mg base "broken" 3 ["problem", "values"] (spD K (ct_broken CProblem)) := by
  refine okC F sc_broken (fun S R h => ?_) fun f cdv A outer s H E hr => ?_
  · obtain ⟨p, v, m, rfl, hm, hv, ok, hR⟩ := h; rfl
  have hu1 := hu1_of hr; have hu64 := hu64_of hr; have hu65 := hu65_of hr
  refine ⟨_, (by exact (pss_cons (by exact (ps_set (i := 1) sc_broken.nd rfl (Or.inl rfl) (by exact (pe_cal c_checked_values (hr.mono (by first | decide | omega)) (by rfl) (by exact (pa_cons (by exact (pv 0)) (by exact (pa_cons (by exact (pv 1)) pa_nil (by rfl))) (by rfl)))))))
      (by exact (pss_cons (by exact (ps_for PassesOwn.never rfl (by exact (k_enK (K := K) rfl (by rfl) T.n_enumerate (by exact (pa_cons (by exact (k_fld (K := K) rfl (by exact (pv 0)) rfl)) pa_nil (by rfl))) (by rfl))) (by exact (k_tup (K := K) (n := 2) rfl rfl (by exact (pgs_cons (by exact (pg_name (i := 2) sc_broken.nd rfl (Or.inl rfl))) (by exact (pgs_cons (by exact (pg_name (i := 3) sc_broken.nd rfl (Or.inl rfl))) pgs_nil)))) (by rfl) (by rfl))) (by exact (pss_one (by exact (ps_if (by exact (pt_not (by exact (k_tr (K := K) rfl (by exact (pe_cal c_holds (hr.mono (by first | decide | omega)) (by rfl) (by exact (pa_cons (by exact (pv 3)) (by exact (pa_cons (by exact (pv 1)) pa_nil (by rfl))) (by rfl))))) (fun _ => rfl))))) (by exact (pss_one (by exact (ps_ret (by exact (pv 2)))))) pss_nil))))))
      (by exact (pss_one (by exact (ps_ret (by exact pe_non))))))))), fun S R h => ?_⟩
  have tcl_Problem := T.cl_Problem; have tf_Problem_hard := T.f_Problem_hard
  clear hu1 hu64 hu65 hr F T
  obtain ⟨p, v, m, rfl, hm, hv, ok, hR⟩ := h
  refine ⟨[], by decide, fun i hi => (by cases hi), ?_⟩
  refine st_imp (show slot0 _ [m, .d (clD v)] = [m, .d (clD v), .no, .no] from rfl) ?_
  have cn := ok.cnt
  refine st_seq (st_setP (d := clD v) (by decide) (by walk_at "ev") ?u1)
  case u1 =>
  refine st_seq (st_forT (vs := [2, 3]) (xs := p.hard.zipIdx) (f := fun q => .tup [.int (q.2 : Nat), clD q.1]) (fun pre S' => (∀ q ∈ pre, holdsB q.1 v = true) ∧ ∃ (a b : M), S' = [m, .d (clD v), a, b]) ?u2 (by decide) ⟨fun q hq => (by cases hq), .no, .no, rfl⟩ ?u3 ?u4)
  case u2 => walk_at "wk"
  case u4 =>
    rintro S' ⟨h, a, b, rfl⟩
    have e : brk p v = none := brk_none.mpr (List.all_eq_true.mpr fun c hc => by
      obtain ⟨i, hi, rfl⟩ := List.getElem_of_mem hc
      exact h (p.hard[i], i) (List.mem_zipIdx_iff_getElem?.mpr (by simp [hi])))
    rw [e] at hR
    exact st_retP (d := .non) (by walk_at "ev") ⟨le_rt rfl, hR⟩
  case u3 =>
    rintro pre q post S' e ⟨h, a, b, rfl⟩
    have hq : q ∈ p.hard.zipIdx := by rw [e]; simp
    have hc := List.fst_mem_of_mem_zipIdx hq
    have k1 := ok.lit hv q.1 hc
    have k2 := ok.len q.1 hc
    refine ⟨_, gt_pair, ?_⟩
    refine' st_ifP (b := !holdsB q.1 v) ?u5 (fun hb => ?u6) fun hb => st_nil ⟨?u7, _, _, rfl⟩
    case u5 =>
      refine' tpp_not (tpp_tr (d := .bl (holdsB q.1 v)) ?u8 rfl)
      case u8 => walk_at "ev"
    case u7 =>
      intro x hx
      rw [Bool.not_eq_false'] at hb
      rcases List.mem_append.mp hx with z | z
      · exact h x z
      · rw [List.mem_singleton] at z; rw [z]; exact hb
    case u6 =>
      rw [Bool.not_eq_true'] at hb
      have eF : p.hard = pre.map (·.1) ++ q.1 :: post.map (·.1) := by
        have := congrArg (List.map (·.1)) e
        rw [List.map_append, List.map_cons, List.zipIdx_map_fst] at this
        exact this
      have e3 := brk_some (v := v) eF (fun x hx => by obtain ⟨y, hy, rfl⟩ := List.mem_map.mp hx; exact h y hy) hb
      have e4 : q.2 = pre.length := by
        have h1 := congrArg (fun l => l[pre.length]?) e
        simp only [List.getElem?_append_right (Nat.le_refl _), Nat.sub_self, List.getElem?_cons_zero, List.getElem?_zipIdx] at h1
        cases z : p.hard[pre.length]? with
        | none => rw [z] at h1; cases h1
        | some y => rw [z] at h1; cases h1; simp
      rw [e3, List.length_map, ← e4] at hR
      exact st_retP (d := .int (q.2 : Nat)) (by walk_at "ev") ⟨le_rt rfl, hR⟩
abbrev s_price_of : Stmt := top 20
theorem sc_price_of : FnScope ["problem", "values", "clause", "weight"] ["problem", "values"] (defScope s_price_of) := ⟨rfl, rfl, rfl, by decide +kernel, rfl, by decide +kernel, by decide +kernel⟩
def ct_price (C : Addr) : Ct := fun S R => ∃ (p : Pb) (v : List Int) (m : M), S = [m, .d (clD v)] ∧ m.rd (probD C p) ∧ Val p.count v ∧ PbOk p ∧ R (.int (price p v)) [.no, .no]
theorem c_price_of (F : FunAt K mg "price_of" s_price_of ["problem", "values"]) (T : Txt K mg CProblem CModel CProgram)
    (c_checked_values : Cal P w K mg base "checked_values" 2 ["problem", "values"] (spD K (ct_chv CProblem)))
    (c_holds : Cal P w K mg base "holds" 2 ["clause", "values"] (spD K (ct_holds)))
    : Cal P w K mg base "price_of" 3 ["problem", "values"] (spD K (ct_price CProblem)) := by
  refine okC F sc_price_of (fun S R h => ?_) fun f cdv A outer s H E hr => ?_
  · obtain ⟨p, v, m, rfl, hm, hv, ok, hR⟩ := h; rfl
  have hu1 := hu1_of hr; have hu64 := hu64_of hr; have hu65 := hu65_of hr
  refine ⟨_, (by exact (pss_cons (by exact (ps_set (i := 1) sc_price_of.nd rfl (Or.inr rfl) (by exact (pe_cal c_checked_values (hr.mono (by first | decide | omega)) (by rfl) (by exact (pa_cons (by exact (pv 0)) (by exact (pa_cons (by exact (pv 1)) pa_nil (by rfl))) (by rfl)))))))
      (by exact (pss_one (by exact (ps_ret (by exact (k_callB (kr_sum (K := K) rfl rfl) (by rfl) T.n_sum (by decide +kernel) (by exact (pa_cons (by exact (pe_lc (own := [("clause", 2), ("weight", 3)]) rfl sc_price_of.nd (by exact (k_sq (K := K) rfl (by exact (k_fld (K := K) rfl (by exact (pv 0)) rfl)))) (blkOk_by (own := [("clause", 2), ("weight", 3)]) (by kernel_rfl)) (by intros; exact (by exact (k_tup (K := K) (n := 2) rfl rfl (by exact (pgs_cons (by exact (pg_name (i := 2) sc_price_of.nd rfl (Or.inl rfl))) (by exact (pgs_cons (by exact (pg_name (i := 3) sc_price_of.nd rfl (Or.inl rfl))) pgs_nil)))) (by rfl) (by rfl)))) (by intros; exact pts_one (by exact (pt_not (by exact (k_tr (K := K) rfl (by exact (pe_cal c_holds (hr.mono (by first | decide | omega)) (by rfl) (by exact (pa_cons (by exact (pv 2)) (by exact (pa_cons (by exact (pv 1)) pa_nil (by rfl))) (by rfl))))) (fun _ => rfl)))))) (by intros; exact (by exact (pv 3))) (by intro _; rfl))) pa_nil (by rfl))) (by decide) (by decide) (by rfl) (by rfl))))))))), fun S R h => ?_⟩
  have tcl_Problem := T.cl_Problem; have tf_Problem_soft := T.f_Problem_soft
  clear hu1 hu64 hu65 hr F T
  obtain ⟨p, v, m, rfl, hm, hv, ok, hR⟩ := h
  refine ⟨[], by decide, fun i hi => (by cases hi), ?_⟩
  refine st_imp (show slot0 _ [m, .d (clD v)] = [m, .d (clD v), .no, .no] from rfl) ?_
  have cn := ok.cnt
  have sl := ok.sl
  have hl2 : p.soft.length ≤ 50000 := by omega
  refine st_seq (st_setP (d := clD v) (by decide) (by walk_at "ev") ?u1)
  case u1 =>
  refine' st_retP (d := .int (price p v)) ?u2 ⟨le_rt rfl, hR⟩
  case u2 =>
    unfold price
    refine' evp_cb ?u3 v_sum
    case u3 =>
      refine' EvP.b (EvF.p (evf_lc (xs := p.soft) (f := softD) ?u4 hl2 ?u5))
      case u4 => walk_at "wk"
      case u5 =>
        intro s h
        have k1 := ok.litS hv s h
        have k2 := ok.lenS s h
        refine ⟨_, gt_pair, ?_, fun _ => evp_var rfl⟩
        refine' tpp_not (tpp_tr (d := .bl (holdsB s.1 v)) ?u7 rfl)
        case u7 => walk_at "ev"
abbrev s_unpaid : Stmt := top 21
theorem sc_unpaid : FnScope ["problem", "values", "at", "clause", "_"] ["problem", "values"] (defScope s_unpaid) := ⟨rfl, rfl, rfl, by decide +kernel, rfl, by decide +kernel, by decide +kernel⟩
def ct_unpaid (C : Addr) : Ct := fun S R => ∃ (p : Pb) (v : List Int) (m : M), S = [m, .d (clD v)] ∧ m.rd (probD C p) ∧ Val p.count v ∧ PbOk p ∧ R (.lst ((unpaid p v).map fun i => .int (i : Nat))) [.no, .no]
theorem c_unpaid (F : FunAt K mg "unpaid" s_unpaid ["problem", "values"]) (T : Txt K mg CProblem CModel CProgram)
    (c_checked_values : Cal P w K mg base "checked_values" 2 ["problem", "values"] (spD K (ct_chv CProblem)))
    (c_holds : Cal P w K mg base "holds" 2 ["clause", "values"] (spD K (ct_holds)))
    : Cal P w K mg base "unpaid" 3 ["problem", "values"] (spD K (ct_unpaid CProblem)) := by
  refine okC F sc_unpaid (fun S R h => ?_) fun f cdv A outer s H E hr => ?_
  · obtain ⟨p, v, m, rfl, hm, hv, ok, hR⟩ := h; rfl
  have hu1 := hu1_of hr; have hu64 := hu64_of hr; have hu65 := hu65_of hr
  refine ⟨_, (by exact (pss_cons (by exact (ps_set (i := 1) sc_unpaid.nd rfl (Or.inr rfl) (by exact (pe_cal c_checked_values (hr.mono (by first | decide | omega)) (by rfl) (by exact (pa_cons (by exact (pv 0)) (by exact (pa_cons (by exact (pv 1)) pa_nil (by rfl))) (by rfl)))))))
      (by exact (pss_one (by exact (ps_ret (by exact (pe_lc (own := [("at", 2), ("clause", 3), ("_", 4)]) rfl sc_unpaid.nd (by exact (k_enK (K := K) rfl (by rfl) T.n_enumerate (by exact (pa_cons (by exact (k_fld (K := K) rfl (by exact (pv 0)) rfl)) pa_nil (by rfl))) (by rfl))) (blkOk_by (own := [("at", 2), ("clause", 3), ("_", 4)]) (by kernel_rfl)) (by intros; exact (by exact (k_tup (K := K) (n := 2) rfl rfl (by exact (pgs_cons (by exact (pg_name (i := 2) sc_unpaid.nd rfl (Or.inl rfl))) (by exact (pgs_cons (by exact (k_tup (K := K) (n := 2) rfl rfl (by exact (pgs_cons (by exact (pg_name (i := 3) sc_unpaid.nd rfl (Or.inl rfl))) (by exact (pgs_cons (by exact (pg_name (i := 4) sc_unpaid.nd rfl (Or.inl rfl))) pgs_nil)))) (by rfl) (by rfl))) pgs_nil)))) (by rfl) (by rfl)))) (by intros; exact pts_one (by exact (pt_not (by exact (k_tr (K := K) rfl (by exact (pe_cal c_holds (hr.mono (by first | decide | omega)) (by rfl) (by exact (pa_cons (by exact (pv 3)) (by exact (pa_cons (by exact (pv 1)) pa_nil (by rfl))) (by rfl))))) (fun _ => rfl)))))) (by intros; exact (by exact (pv 2))) (by intro _; rfl))))))))), fun S R h => ?_⟩
  have tcl_Problem := T.cl_Problem; have tf_Problem_soft := T.f_Problem_soft
  clear hu1 hu64 hu65 hr F T
  obtain ⟨p, v, m, rfl, hm, hv, ok, hR⟩ := h
  refine ⟨[], by decide, fun i hi => (by cases hi), ?_⟩
  refine st_imp (show slot0 _ [m, .d (clD v)] = [m, .d (clD v), .no, .no, .no] from rfl) ?_
  have cn := ok.cnt
  have sl := ok.sl
  have hl2 : p.soft.zipIdx.length ≤ 50000 := by rw [List.length_zipIdx]; omega
  refine st_seq (st_setP (d := clD v) (by decide) (by walk_at "ev") ?u1)
  case u1 =>
  refine' st_retP (d := .lst ((unpaid p v).map fun i => .int (i : Nat))) ?u2 ⟨le_rt rfl, hR⟩
  case u2 =>
    refine' EvF.p (EvF.is (evf_lc (xs := p.soft.zipIdx) (f := fun q => .tup [.int (q.2 : Nat), softD q.1]) (p := fun q => !holdsB q.1.1 v) (r := fun q => .int (q.2 : Nat)) ?u4 hl2 ?u5) ?u6)
    case u6 => unfold unpaid; rw [List.map_map]; rfl
    case u4 => walk_at "wk"
    case u5 =>
      intro q h
      have hm := List.fst_mem_of_mem_zipIdx h
      have k1 := ok.litS hv q.1 hm
      have k2 := ok.lenS q.1 hm
      refine' ⟨_, ?gx, ?u8, fun _ => ?u9⟩
      case gx => walk_at "gt"
      case u9 => exact evp_var rfl
      case u8 =>
        refine' tpp_not (tpp_tr (d := .bl (holdsB q.1.1 v)) ?u7 rfl)
        case u7 => walk_at "ev"
abbrev s_cheapest_of : Stmt := top 22
theorem sc_cheapest_of : FnScope ["problem", "rows", "best", "price", "row", "own"] ["problem", "rows"] (defScope s_cheapest_of) := ⟨rfl, rfl, rfl, by decide +kernel, rfl, by decide +kernel, by decide +kernel⟩
def ct_cheapest (C : Addr) : Ct := fun S R => ∃ (p : Pb) (rs : List (List Int)) (m1 : M), S = [m1, .d (.lst (rs.map clD))] ∧ m1.rd (probD C p) ∧ (∀ v ∈ rs, Val p.count v) ∧ PbOk p ∧ ∀ b, BestOf p rs b → R (optR b) [.no, .no]
theorem c_cheapest_of (F : FunAt K mg "cheapest_of" s_cheapest_of ["problem", "rows"]) (T : Txt K mg CProblem CModel CProgram)
    (c_checked_values : Cal P w K mg base "checked_values" 2 ["problem", "values"] (spD K (ct_chv CProblem)))
    (c_broken : Cal P w K mg base "broken" 3 ["problem", "values"] (spD K (ct_broken CProblem)))
    (c_price_of : Cal P w K mg base "price_of" 3 ["problem", "values"] (spD K (ct_price CProblem)))
    : Cal P w K mg base "cheapest_of" 4 ["problem", "rows"] (spD K (ct_cheapest CProblem)) := by
  refine okC F sc_cheapest_of (fun S R h => ?_) fun f cdv A outer s H E hr => ?_
  · obtain ⟨p, rs, m1, rfl, hm1, hv, ok, hR⟩ := h; rfl
  have hu1 := hu1_of hr; have hu64 := hu64_of hr; have hu65 := hu65_of hr
  refine ⟨_, (by exact (pss_cons (by exact (ps_set (i := 2) sc_cheapest_of.nd rfl (Or.inl rfl) (by exact pe_non)))
      (by exact (pss_cons (by exact (ps_set (i := 3) sc_cheapest_of.nd rfl (Or.inl rfl) (by exact pe_non)))
      (by exact (pss_cons (by exact (ps_for PassesOwn.never rfl (by exact (k_sq (K := K) rfl (by exact (pv 1)))) (by exact (pg_name (i := 4) sc_cheapest_of.nd rfl (Or.inl rfl))) (by exact (pss_cons (by exact (ps_set (i := 4) sc_cheapest_of.nd rfl (Or.inl rfl) (by exact (pe_cal c_checked_values (hr.mono (by first | decide | omega)) (by rfl) (by exact (pa_cons (by exact (pv 0)) (by exact (pa_cons (by exact (pv 4)) pa_nil (by rfl))) (by rfl)))))))
      (by exact (pss_one (by exact (ps_if (by exact (pt_cmpR or_isU (by exact (pe_cal c_broken (hr.mono (by first | decide | omega)) (by rfl) (by exact (pa_cons (by exact (pv 0)) (by exact (pa_cons (by exact (pv 4)) pa_nil (by rfl))) (by rfl))))) (by exact pe_non) (nomark _))) (by exact (pss_cons (by exact (ps_set (i := 5) sc_cheapest_of.nd rfl (Or.inl rfl) (by exact (pe_cal c_price_of (hr.mono (by first | decide | omega)) (by rfl) (by exact (pa_cons (by exact (pv 0)) (by exact (pa_cons (by exact (pv 4)) pa_nil (by rfl))) (by rfl)))))))
      (by exact (pss_one (by exact (ps_if (by exact (PW.pt (by exact (by exact (pw_or (by exact (pt_cmpR or_isU (by exact (pv 3)) (by exact pe_non) (nomark _))) (by exact (pw_or1 (by exact (pt_cmpR op_lt (by exact (pv 5)) (by exact (pv 3)) (nomark _)))))))))) (by exact (pss_one (by exact (ps_par (i := 2) (j := 3) (by rfl) sc_cheapest_of.nd rfl rfl (by decide) rfl rfl (by exact (pa_cons (by exact (pv 4)) (by exact (pa_cons (by exact (pv 5)) pa_nil (by rfl))) (by rfl))) (by rfl))))) pss_nil)))))) pss_nil))))))))
      (by exact (pss_one (by exact (ps_ret (by exact (pv 2)))))))))))), fun S R h => ?_⟩
  clear hu1 hu64 hu65 hr F T
  obtain ⟨p, rs, m1, rfl, hm1, hv, ok, hR⟩ := h
  refine ⟨[], by decide, fun i hi => (by cases hi), ?_⟩
  refine st_imp (show slot0 _ [m1, .d (.lst (rs.map clD))] = [m1, .d (.lst (rs.map clD)), .no, .no, .no, .no] from rfl) ?_
  have cn := ok.cnt
  refine st_seq (st_setP (d := .non) (by decide) (by walk_at "ev") ?u1)
  case u1 =>
  refine st_seq (st_setP (d := .non) (by decide) (by walk_at "ev") ?u2)
  case u2 =>
  refine st_seq (st_forT (vs := [4]) (xs := rs) (f := clD) (fun pre S' => ∃ (b : Option (List Int)) (a4 a5 : M), S' = [m1, .d (.lst (rs.map clD)), .d (optR b), .d (optP p b), a4, a5] ∧ BestOf p pre b) ?u3 (by decide) ⟨none, .no, .no, rfl, rfl⟩ ?u4 ?u5)
  case u3 => walk_at "wk"
  case u5 =>
    rintro S' ⟨b, a4, a5, rfl, hb⟩
    exact st_retP (d := optR b) (evp_var rfl) ⟨le_rt rfl, hR b hb⟩
  case u4 =>
    rintro pre r post S' e ⟨b, a4, a5, rfl, hb⟩
    have hr := hv r (by rw [e]; simp)
    refine ⟨_, gt_name, ?_⟩
    refine st_seq (st_setP (d := clD r) (by decide) (by walk_at "ev") ?v1)
    case v1 =>
    show StN K [] _ [m1, .d (.lst (rs.map clD)), .d (optR b), .d (optP p b), .d (clD r), a5] _
    refine' st_ifP (b := (optI (brk p r)).isN) ?v2 (fun hn => ?v3) fun hn => st_nil ⟨b, _, _, rfl, hb.skip ?v4⟩
    case v2 => walk_at "ev"
    case v4 =>
      cases z : goodB p.hard r with
      | false => rfl
      | true => rw [brk_none.mpr z] at hn; cases hn
    case v3 =>
    have hg : goodB p.hard r = true := by
      cases z : brk p r with
      | none => exact brk_none.mp z
      | some i => rw [z] at hn; cases hn
    refine st_seq (st_setP (d := .int (price p r)) (by decide) (by walk_at "ev") ?v5)
    case v5 =>
    show StN K [] _ [m1, .d (.lst (rs.map clD)), .d (optR b), .d (optP p b), .d (clD r), .d (.int (price p r))] _
    have swap : (∀ q, b = some q → price p r < price p q) → StN K [] (tPar 2 3 (tCons (tVar 4) (tCons (tVar 5) tNil))) [m1, .d (.lst (rs.map clD)), .d (optR b), .d (optP p b), .d (clD r), .d (.int (price p r))] ⟨fun S' => ∃ (b : Option (List Int)) (a4 a5 : M), S' = [m1, .d (.lst (rs.map clD)), .d (optR b), .d (optP p b), a4, a5] ∧ BestOf p (pre ++ [r]) b,
        fun d S' => 2 ≤ S'.length ∧ R d (outM [] 0 2 S'), fun S' => StN K [] (tRet (tVar 2)) S' ⟨fun S' => 2 ≤ S'.length ∧ R .non (outM [] 0 2 S'), fun d S' => 2 ≤ S'.length ∧ R d (outM [] 0 2 S'), fun _ => False, fun _ => False⟩, fun S' => ∃ (b : Option (List Int)) (a4 a5 : M), S' = [m1, .d (.lst (rs.map clD)), .d (optR b), .d (optP p b), a4, a5] ∧ BestOf p (pre ++ [r]) b⟩ := fun hlt =>
      st_par (by decide) (by decide) (app_n (ds := [clD r, .int (price p r)]) (by walk_at "ev") ⟨_, _, rfl, some r, _, _, rfl, hb.take hg hlt⟩)
    cases b with
    | none =>
      refine' st_ifP (b := (optP p none).isN || false) (tpp_or ?w1 fun z => by cases z) (fun _ => swap fun q z => by cases z) (fun z => by cases z)
      case w1 => walk_at "ev"
    | some q =>
      refine' st_ifP (b := (optP p (some q)).isN || decide (price p r < price p q)) ?w2 (fun z => swap fun q' e' => ?w3) fun z => st_nil ⟨some q, _, _, rfl, hb.stay hg ?w4⟩
      case w2 =>
        refine' tpp_or ?w5 fun _ => tpp_test (evp_op ?w6 ?w7 v_lt)
        case w5 => walk_at "ev"
        case w6 => exact EvP.b (evp_var rfl)
        case w7 => exact EvP.b (evp_var rfl)
      case w3 => cases e'; simpa [optP, D.isN] using z
      case w4 => simpa [optP, D.isN] using z
abbrev s_priced : Stmt := top 23
theorem sc_priced : FnScope ["problem", "values", "at"] ["problem", "values"] (defScope s_priced) := ⟨rfl, rfl, rfl, by decide +kernel, rfl, by decide +kernel, by decide +kernel⟩
def prD (C : Addr) (p : Pb) (v : List Int) : D := match brk p v with
  | some i => .tup [.str "breaks", probD C p, clD v, .int (i : Nat)]
  | none => .tup [.str "priced", probD C p, clD v, .int (price p v)]
def ct_priced (C : Addr) : Ct := fun S R => ∃ (p : Pb) (v : List Int), S = [.d (probD C p), .d (clD v)] ∧ Val p.count v ∧ PbOk p ∧ R (prD C p v) [.no, .no]
theorem c_priced (F : FunAt K mg "priced" s_priced ["problem", "values"]) (T : Txt K mg CProblem CModel CProgram)
    (c_checked_values : Cal P w K mg base "checked_values" 2 ["problem", "values"] (spD K (ct_chv CProblem)))
    (c_broken : Cal P w K mg base "broken" 3 ["problem", "values"] (spD K (ct_broken CProblem)))
    (c_price_of : Cal P w K mg base "price_of" 3 ["problem", "values"] (spD K (ct_price CProblem)))
    : Cal P w K mg base "priced" 4 ["problem", "values"] (spD K (ct_priced CProblem)) := by
  refine okC F sc_priced (fun S R h => ?_) fun f cdv A outer s H E hr => ?_
  · obtain ⟨p, v, rfl, hv, ok, hR⟩ := h; rfl
  have hu1 := hu1_of hr; have hu64 := hu64_of hr; have hu65 := hu65_of hr
  refine ⟨_, (by exact (pss_cons (by exact (ps_set (i := 1) sc_priced.nd rfl (Or.inl rfl) (by exact (pe_cal c_checked_values (hr.mono (by first | decide | omega)) (by rfl) (by exact (pa_cons (by exact (pv 0)) (by exact (pa_cons (by exact (pv 1)) pa_nil (by rfl))) (by rfl)))))))
      (by exact (pss_cons (by exact (ps_set (i := 2) sc_priced.nd rfl (Or.inl rfl) (by exact (pe_cal c_broken (hr.mono (by first | decide | omega)) (by rfl) (by exact (pa_cons (by exact (pv 0)) (by exact (pa_cons (by exact (pv 1)) pa_nil (by rfl))) (by rfl)))))))
      (by exact (pss_cons (by exact (ps_if (by exact (pt_cmpR or_notU (by exact (pv 2)) (by exact pe_non) (nomark _))) (by exact (pss_one (by exact (ps_ret (by exact (pe_tup (by exact (pa_cons (by exact pe_str) (by exact (pa_cons (by exact (pv 0)) (by exact (pa_cons (by exact (pv 1)) (by exact (pa_cons (by exact (pv 2)) pa_nil (by rfl))) (by rfl))) (by rfl))) (by rfl))))))))) pss_nil))
      (by exact (pss_one (by exact (ps_ret (by exact (pe_tup (by exact (pa_cons (by exact pe_str) (by exact (pa_cons (by exact (pv 0)) (by exact (pa_cons (by exact (pv 1)) (by exact (pa_cons (by exact (pe_cal c_price_of (hr.mono (by first | decide | omega)) (by rfl) (by exact (pa_cons (by exact (pv 0)) (by exact (pa_cons (by exact (pv 1)) pa_nil (by rfl))) (by rfl))))) pa_nil (by rfl))) (by rfl))) (by rfl))) (by rfl))))))))))))))), fun S R h => ?_⟩
  clear hu1 hu64 hu65 hr F T
  obtain ⟨p, v, rfl, hv, ok, hR⟩ := h
  refine ⟨[], by decide, fun i hi => (by cases hi), ?_⟩
  refine st_imp (show slot0 _ [M.d (probD CProblem p), .d (clD v)] = [M.d (probD CProblem p), .d (clD v), .no] from rfl) ?_
  have cn := ok.cnt
  have hm : (M.d (probD CProblem p)).rd (probD CProblem p) := rfl
  refine st_seq (st_setP (d := clD v) (by decide) (by walk_at "ev") ?u1)
  case u1 =>
  refine st_seq (st_setP (d := optI (brk p v)) (by decide) (by walk_at "ev") ?u2)
  case u2 =>
  unfold prD at hR
  refine' st_seq (st_ifP (b := !(optI (brk p v)).isN) ?u3 (fun hb => ?u4) fun hb => st_nil ?u5)
  case u3 => walk_at "ev"
  case u4 =>
    cases z : brk p v with
    | none => rw [z] at hb; cases hb
    | some i =>
      rw [z] at hR
      exact st_retP (d := .tup [.str "breaks", probD CProblem p, clD v, .int (i : Nat)]) (by walk_at "ev") ⟨le_rt rfl, hR⟩
  case u5 =>
    cases z : brk p v with
    | some i => rw [z] at hb; cases hb
    | none =>
      rw [z] at hR
      exact st_retP (d := .tup [.str "priced", probD CProblem p, clD v, .int (price p v)]) (by walk_at "ev") ⟨le_rt rfl, hR⟩
end
open PySem L2 Evl PyProof.Rows Dl

section
variable {P : Program} {w : World} {K : PySem.W.Frag} {mg : PySem.Str → Option Value} {base : Heap} {CProblem CModel CProgram : Addr}
abbrev s_priced_right : Stmt := top 24
theorem sc_priced_right : FnScope ["claim", "form", "problem", "values", "told"] ["claim"] (defScope s_priced_right) := ⟨rfl, rfl, rfl, by decide +kernel, rfl, by decide +kernel, by decide +kernel⟩
def ct_prR (C : Addr) : Ct := fun S R => ∃ (p : Pb) (v : List Int) (d : D), S = [.d d] ∧ Val p.count v ∧ PbOk p ∧ ((∃ k : Int, d = .tup [.str "breaks", probD C p, clD v, .int k] ∧ R (.bl (brkAt p v k)) [.no]) ∨ (d = .tup [.str "priced", probD C p, clD v, .int (price p v)] ∧ brk p v = none ∧ R (.bl true) [.no]))
theorem c_priced_right (F : FunAt K mg "priced_right" s_priced_right ["claim"]) (T : Txt K mg CProblem CModel CProgram)
    (c_are_values : Cal P w K mg base "are_values" 1 ["values", "count"] (spD K (ct_are_values)))
    (c_holds : Cal P w K mg base "holds" 2 ["clause", "values"] (spD K (ct_holds)))
    (c_broken : Cal P w K mg base "broken" 3 ["problem", "values"] (spD K (ct_broken CProblem)))
    (c_price_of : Cal P w K mg base "price_of" 3 ["problem", "values"] (spD K (ct_price CProblem)))
    : Cal P w K mg base "priced_right" 4 ["claim"] (spD K (ct_prR CProblem)) := by
  refine okC F sc_priced_right (fun S R h => ?_) fun f cdv A outer s H E hr => ?_
  · obtain ⟨p, v, d, rfl, hv, ok, hd⟩ := h; rfl
  have hu1 := hu1_of hr; have hu64 := hu64_of hr; have hu65 := hu65_of hr
  refine ⟨_, (by exact (pss_cons (by exact (ps_asg (by exact (pv 0)) (by exact (k_tup (K := K) (n := 4) rfl rfl (by exact (pgs_cons (by exact (pg_name (i := 1) sc_priced_right.nd rfl (Or.inl rfl))) (by exact (pgs_cons (by exact (pg_name (i := 2) sc_priced_right.nd rfl (Or.inl rfl))) (by exact (pgs_cons (by exact (pg_name (i := 3) sc_priced_right.nd rfl (Or.inl rfl))) (by exact (pgs_cons (by exact (pg_name (i := 4) sc_priced_right.nd rfl (Or.inl rfl))) pgs_nil)))))))) (by rfl) (by rfl)))))
      (by exact (pss_cons (by exact (ps_if (by exact (pt_not (by exact (k_tr (K := K) rfl (by exact (pe_cal c_are_values (hr.mono (by first | decide | omega)) (by rfl) (by exact (pa_cons (by exact (pv 3)) (by exact (pa_cons (by exact (k_fld (K := K) rfl (by exact (pv 2)) rfl)) pa_nil (by rfl))) (by rfl))))) (fun _ => rfl))))) (by exact (pss_one (by exact (ps_ret (by exact pe_bl))))) pss_nil))
      (by exact (pss_cons (by exact (ps_if (by exact (kt_eq (K := K) rfl hu64 (by exact (pv 1)) (by exact pe_str))) (by exact (pss_one (by exact (ps_ret (by exact (pe_and (by exact (pe_chain op_le op_lt (by exact pe_int) (by exact (pv 4)) (by exact (k_callB (kr_len (K := K) rfl) (by rfl) T.n_len (by decide +kernel) (by exact (pa_cons (by exact (k_fld (K := K) rfl (by exact (pv 2)) rfl)) pa_nil (by rfl))) (by decide) (by decide) (by rfl) (by rfl))))) (pe_one (by exact (pe_not (by exact (pe_cal c_holds (hr.mono (by first | decide | omega)) (by rfl) (by exact (pa_cons (by exact (k_sub (K := K) rfl hu1 (by exact (k_fld (K := K) rfl (by exact (pv 2)) rfl)) (by exact (pv 4)) (fun _ _ => rfl) (fun _ _ => rfl))) (by exact (pa_cons (by exact (pv 3)) pa_nil (by rfl))) (by rfl)))))))))))))) pss_nil))
      (by exact (pss_one (by exact (ps_ret (by exact (pe_and (by exact (pe_cmpR or_isU (by exact (pe_cal c_broken (hr.mono (by first | decide | omega)) (by rfl) (by exact (pa_cons (by exact (pv 2)) (by exact (pa_cons (by exact (pv 3)) pa_nil (by rfl))) (by rfl))))) (by exact pe_non) (nomark _))) (pe_one (by exact (k_eq (K := K) rfl hu64 (by exact (pe_cal c_price_of (hr.mono (by first | decide | omega)) (by rfl) (by exact (pa_cons (by exact (pv 2)) (by exact (pa_cons (by exact (pv 3)) pa_nil (by rfl))) (by rfl))))) (by exact (pv 4))))))))))))))))), fun S R h => ?_⟩
  have tcl_Problem := T.cl_Problem; have tf_Problem_count := T.f_Problem_count; have tf_Problem_hard := T.f_Problem_hard
  have tcl_Program := T.cl_Program; have tf_Program_count := T.f_Program_count
  clear hu1 hu64 hu65 hr F T
  obtain ⟨p, v, d, rfl, hv, ok, hd⟩ := h
  refine ⟨[], by decide, fun i hi => (by cases hi), ?_⟩
  refine st_imp (show slot0 _ [M.d d] = [M.d d, .no, .no, .no, .no] from rfl) ?_
  have cn := ok.cnt
  have hvl := hv.len
  rcases hd with ⟨k, rfl, hR⟩ | ⟨rfl, hb, hR⟩
  · refine' st_seq (st_asg (vs := [1, 2, 3, 4]) (by decide) (EvP.n (d := .tup [.str "breaks", probD CProblem p, clD v, .int k]) (evp_var rfl) ⟨_, ?gx, ?u1⟩))
    case gx => walk_at "gt"
    case u1 =>
    show StN K [] _ [.d (.tup [.str "breaks", probD CProblem p, clD v, .int k]), .d (.str "breaks"), .d (probD CProblem p), .d (clD v), .d (.int k)] _
    refine' st_seq (st_ifP (b := !true) ?u2 (fun z => by cases z) fun _ => st_nil ?u3)
    case u2 =>
      refine' tpp_not (tpp_tr (d := .bl true) ?u4 rfl)
      case u4 => walk_at "ev"
    case u3 =>
    refine' st_seq (st_ifP (b := decide (("breaks" : PySem.Str) = "breaks")) ?u5 (fun _ => ?u6) fun z => by simp at z)
    case u5 => refine' tpp_test ?u55; case u55 => walk_at "ev"
    case u6 =>
    refine' st_retP (d := .bl (brkAt p v k)) ?u7 ⟨le_rt rfl, hR⟩
    case u7 =>
      unfold brkAt
      refine' evp_andV ?u8 fun hk => ?u9
      case u8 =>
        refine' EvP.is (d := .bl (decide ((0 : Int) ≤ k) && decide (k < ((p.hard.map clD).length : Int)))) ?u10 (by rw [List.length_map])
        case u10 => walk_at "ev"
      case u9 =>
        rw [Bool.and_eq_true, decide_eq_true_eq, decide_eq_true_eq] at hk
        obtain ⟨j, rfl⟩ : ∃ j : Nat, k = (j : Int) := ⟨k.toNat, by omega⟩
        have hj : j < p.hard.length := by omega
        have hc := List.getElem_mem hj
        have hat : atI (p.hard.map clD) ((j : Nat) : Int) = some (clD p.hard[j]) := atI_nat (by rw [List.getElem?_map, List.getElem?_eq_getElem hj]; rfl)
        have e : p.hard.getD ((j : Nat) : Int).toNat [] = p.hard[j] := by
          rw [Int.toNat_natCast, List.getD_eq_getElem?_getD, List.getElem?_eq_getElem hj]; rfl
        have k1 := ok.lit hv _ hc
        have k2 := ok.len _ hc
        rw [e]
        refine' evp_notV ?u11
        case u11 => walk_at "ev"
  · refine' st_seq (st_asg (vs := [1, 2, 3, 4]) (by decide) (EvP.n (d := .tup [.str "priced", probD CProblem p, clD v, .int (price p v)]) (evp_var rfl) ⟨_, ?gy, ?w1⟩))
    case gy => walk_at "gt"
    case w1 =>
    show StN K [] _ [.d (.tup [.str "priced", probD CProblem p, clD v, .int (price p v)]), .d (.str "priced"), .d (probD CProblem p), .d (clD v), .d (.int (price p v))] _
    refine' st_seq (st_ifP (b := !true) ?w2 (fun z => by cases z) fun _ => st_nil ?w3)
    case w2 =>
      refine' tpp_not (tpp_tr (d := .bl true) ?w4 rfl)
      case w4 => walk_at "ev"
    case w3 =>
    refine' st_seq (st_ifP (b := decide (("priced" : PySem.Str) = "breaks")) ?w5 (fun z => absurd (of_decide_eq_true z) (by decide)) fun _ => st_nil ?w6)
    case w5 => refine' tpp_test ?w55; case w55 => walk_at "ev"
    case w6 =>
    have hm : (M.d (probD CProblem p)).rd (probD CProblem p) := rfl
    refine' st_retP (d := .bl true) (EvP.is (d := .bl ((optI (brk p v)).isN && decide (price p v = price p v))) ?w7 (by rw [hb]; simp [optI, D.isN])) ⟨le_rt rfl, hR⟩
    case w7 => walk_at "ev"
abbrev s_full_values : Stmt := top 25
theorem sc_full_values : FnScope ["problem", "values", "left", "at"] ["problem", "values"] (defScope s_full_values) := ⟨rfl, rfl, rfl, by decide +kernel, rfl, by decide +kernel, by decide +kernel⟩
def ct_full (C : Addr) : Ct := fun S R => ∃ (p : Pb) (v : List Int) (m : M), S = [m, .d (clD v)] ∧ m.rd (probD C p) ∧ Val p.count v ∧ PbOk p ∧ R (clD (fullV p v)) [.no, .no]
theorem c_full_values (F : FunAt K mg "full_values" s_full_values ["problem", "values"]) (T : Txt K mg CProblem CModel CProgram)
    (c_unpaid : Cal P w K mg base "unpaid" 3 ["problem", "values"] (spD K (ct_unpaid CProblem)))
    : Cal P w K mg base "full_values" 4 ["problem", "values"] (spD K (ct_full CProblem)) := by
  refine okC F sc_full_values (fun S R h => ?_) fun f cdv A outer s H E hr => ?_
  · obtain ⟨p, v, m, rfl, hm, hv, ok, hR⟩ := h; rfl
  have hu1 := hu1_of hr; have hu64 := hu64_of hr; have hu65 := hu65_of hr
  refine ⟨_, (by exact (pss_cons (by exact (ps_set (i := 2) sc_full_values.nd rfl (Or.inr rfl) (by exact (pe_cal c_unpaid (hr.mono (by first | decide | omega)) (by rfl) (by exact (pa_cons (by exact (pv 0)) (by exact (pa_cons (by exact (pv 1)) pa_nil (by rfl))) (by rfl)))))))
      (by exact (pss_one (by exact (ps_ret (by exact (k_add (K := K) rfl (by exact (k_tupleOf (K := K) rfl (by rfl) T.n_tuple (by exact (pv 1)) (by rfl))) (by exact (k_tupleOf (K := K) rfl (by rfl) T.n_tuple (by exact (pe_lc (own := [("at", 3)]) rfl sc_full_values.nd (by exact (pi_range1 rfl T.n_range (by exact (pa_cons (by exact (k_callB (kr_len (K := K) rfl) (by rfl) T.n_len (by decide +kernel) (by exact (pa_cons (by exact (k_fld (K := K) rfl (by exact (pv 0)) rfl)) pa_nil (by rfl))) (by decide) (by decide) (by rfl) (by rfl))) pa_nil (by rfl))))) (blkOk_by (own := [("at", 3)]) (by kernel_rfl)) (by intros; exact (by exact (pg_name (i := 3) sc_full_values.nd rfl (Or.inl rfl)))) (by intros; exact pts_nil) (by intros; exact (by exact (k_callTy cr_intU (by rfl) T.n_int (by decide +kernel) (by exact (pa_cons (by exact (k_in (K := K) rfl hu65 (by exact (pv 3)) (by exact (pv 2)) (by rfl))) pa_nil (by rfl))) (by decide) (by decide) (by rfl) (by rfl)))) (by intro _; rfl))) (by rfl))))))))))), fun S R h => ?_⟩
  have tcl_Problem := T.cl_Problem; have tf_Problem_soft := T.f_Problem_soft
  clear hu1 hu64 hu65 hr F T
  obtain ⟨p, v, m, rfl, hm, hv, ok, hR⟩ := h
  refine ⟨[], by decide, fun i hi => (by cases hi), ?_⟩
  refine st_imp (show slot0 _ [m, .d (clD v)] = [m, .d (clD v), .no, .no] from rfl) ?_
  have sl := ok.sl
  have cn := ok.cnt
  have hvl := hv.len
  refine st_seq (st_setP (d := .lst (((unpaid p v).map fun j => ((j : Nat) : Int)).map D.int)) (by decide) (EvP.is (d := .lst ((unpaid p v).map fun i => .int (i : Nat))) (by walk_at "ev") (by rw [List.map_map]; rfl)) ?u1)
  case u1 =>
  show StN K [] _ [m, .d (clD v), .d (.lst (((unpaid p v).map fun j => ((j : Nat) : Int)).map D.int)), .no] _
  refine' st_retP (d := clD (fullV p v)) (EvP.is (evp_op (x := clD v) (y := .tup ((List.range p.soft.length).map fun i => .int (b2i (decide (((i : Nat) : Int) ∈ (unpaid p v).map fun j => ((j : Nat) : Int)))))) ?u2 ?u3 (v_catt ?u4)) ?u5) ⟨le_rt rfl, hR⟩
  case u2 => walk_at "ev"
  case u4 => simp; omega
  case u5 => simp [fullV, clD, Function.comp_def]
  case u3 =>
    refine' EvP.b (evp_then (EvP.b (EvF.p (evf_lcA (xs := List.range p.soft.length) (f := fun i => .int (i : Nat)) ?u6 (by rw [List.length_range]; omega) ?u7))) v_tupl)
    case u6 =>
      refine' WkP.b (wkp_rngM ?u8 (by omega))
      case u8 => exact EvP.b (EvP.is (d := .int ((p.soft.map softD).length : Nat)) (by walk_at "ev") (by rw [List.length_map]))
    case u7 =>
      intro i hi
      refine ⟨_, gt_name, ?_⟩
      walk_at "ev"
abbrev s_second_price : Stmt := top 44
theorem sc_second_price : FnScope ["problem", "seconds", "values", "found", "own", "weight", "literal"] ["problem", "seconds", "values"] (defScope s_second_price) := ⟨rfl, rfl, rfl, by decide +kernel, rfl, by decide +kernel, by decide +kernel⟩
def ct_second (C : Addr) : Ct := fun S R => ∃ (p : Pb) (ws v : List Int) (m : M), S = [m, .d (intsD ws), .d (clD v)] ∧ m.rd (probD C p) ∧ Val p.count v ∧ PbOk p ∧ R (.int (secP p ws v)) [.no, .no, .no]
theorem c_second_price (F : FunAt K mg "second_price" s_second_price ["problem", "seconds", "values"]) (T : Txt K mg CProblem CModel CProgram)
    : Cal P w K mg base "second_price" 1 ["problem", "seconds", "values"] (spD K (ct_second CProblem)) := by
  refine okC F sc_second_price (fun S R h => ?_) fun f cdv A outer s H E hr => ?_
  · obtain ⟨p, ws, v, m, rfl, hm, hv, ok, hR⟩ := h; rfl
  have hu1 := hu1_of hr; have hu64 := hu64_of hr; have hu65 := hu65_of hr
  refine ⟨_, (by exact (pss_cons (by exact (ps_set (i := 3) sc_second_price.nd rfl (Or.inl rfl) (by exact pe_int)))
      (by exact (pss_cons (by exact (ps_for PassesOwn.never rfl (by exact (k_zpK (K := K) rfl (by rfl) T.n_zip (by exact (pa_cons (by exact (k_fld (K := K) rfl (by exact (pv 0)) rfl)) (by exact (pa_cons (by exact (pv 1)) pa_nil (by rfl))) (by rfl))) (by rfl) (by rfl))) (by exact (k_tup (K := K) (n := 2) rfl rfl (by exact (pgs_cons (by exact (pg_name (i := 4) sc_second_price.nd rfl (Or.inl rfl))) (by exact (pgs_cons (by exact (pg_name (i := 5) sc_second_price.nd rfl (Or.inl rfl))) pgs_nil)))) (by rfl) (by rfl))) (by exact (pss_one (by exact (ps_if (by exact (pt_not (by exact (k_tr (K := K) rfl (by exact (k_callB (kr_any (K := K) rfl rfl) (by rfl) T.n_any (by decide +kernel) (by exact (pa_cons (by exact (pe_lc (own := [("literal", 6)]) rfl sc_second_price.nd (by exact (k_sq (K := K) rfl (by exact (k_sub (K := K) rfl hu1 (by exact (pv 4)) (by exact pe_int) (fun _ _ => rfl) (fun _ _ => rfl))))) (blkOk_by (own := [("literal", 6)]) (by kernel_rfl)) (by intros; exact (by exact (pg_name (i := 6) sc_second_price.nd rfl (Or.inl rfl)))) (by intros; exact pts_nil) (by intros; exact (by exact (k_eq (K := K) rfl hu64 (by exact (k_sub (K := K) rfl hu1 (by exact (pv 2)) (by exact (pe_op op_sub (by exact (k_callB cr_absI (by rfl) T.n_abs (by decide +kernel) (by exact (pa_cons (by exact (pv 6)) pa_nil (by rfl))) (by decide) (by decide) (by rfl) (by rfl))) (by exact pe_int))) (fun _ _ => rfl) (fun _ _ => rfl))) (by exact (k_callTy cr_intU (by rfl) T.n_int (by decide +kernel) (by exact (pa_cons (by exact (pe_cmpR op_gt (by exact (pv 6)) (by exact pe_int) (nomark _))) pa_nil (by rfl))) (by decide) (by decide) (by rfl) (by rfl)))))) (by intro _; rfl))) pa_nil (by rfl))) (by decide) (by decide) (by rfl) (by rfl))) (fun _ => rfl))))) (by exact (pss_one (by exact (ps_set (i := 3) sc_second_price.nd rfl (Or.inl rfl) (by exact (k_add (K := K) rfl (by exact (pv 3)) (by exact (pv 5)))))))) pss_nil))))))
      (by exact (pss_one (by exact (ps_ret (by exact (pv 3)))))))))), fun S R h => ?_⟩
  have tcl_Problem := T.cl_Problem; have tf_Problem_soft := T.f_Problem_soft
  clear hu1 hu64 hu65 hr F T
  obtain ⟨p, ws, v, m, rfl, hm, hv, ok, hR⟩ := h
  refine ⟨[], by decide, fun i hi => (by cases hi), ?_⟩
  refine st_imp (show slot0 _ [m, .d (intsD ws), .d (clD v)] = [m, .d (intsD ws), .d (clD v), .no, .no, .no, .no] from rfl) ?_
  refine st_seq (st_setP (d := .int 0) (by decide) (by walk_at "ev") ?u1)
  case u1 =>
  refine st_seq (st_forT (vs := [4, 5]) (xs := p.soft.zip ws) (f := fun q => .tup [softD q.1, .int q.2]) (fun pre S' => ∃ (a b c : M), S' = [m, .d (intsD ws), .d (clD v), .d (.int ((pre.filter fun q => !holdsB q.1.1 v).map fun q => q.2).sum), a, b, c]) ?u2 (by decide) ⟨.no, .no, .no, rfl⟩ ?u3 ?u4)
  case u2 => walk_at "wk"
  case u4 =>
    rintro S' ⟨a, b, c, rfl⟩
    exact st_retP (d := .int (secP p ws v)) (evp_var rfl) ⟨le_rt rfl, hR⟩
  case u3 =>
    rintro pre q post S' e ⟨a, b, c, rfl⟩
    have hq := (List.of_mem_zip (show (q.1, q.2) ∈ p.soft.zip ws by rw [e]; simp)).1
    have hlit := ok.litS hv q.1 hq
    have k2 := ok.lenS q.1 hq
    have k3 : q.1.1.length ≤ 50000 := by omega
    have hat : ∀ l, l ∈ q.1.1 → atI (v.map D.int) ((l.natAbs : Int) - 1) = some (.int (v.getD (l.natAbs - 1) 0)) := fun l hl => at_lit (hlit l hl)
    refine ⟨_, gt_pair, ?_⟩
    show StN K [] _ [m, .d (intsD ws), .d (clD v), .d (.int ((pre.filter fun q => !holdsB q.1.1 v).map fun q => q.2).sum), .d (softD q.1), .d (.int q.2), c] _
    have sum_ : ∀ b : Bool, (!holdsB q.1.1 v) = b → (((pre ++ [q]).filter fun q => !holdsB q.1.1 v).map fun q => q.2).sum = if b = true then ((pre.filter fun q => !holdsB q.1.1 v).map fun q => q.2).sum + q.2 else ((pre.filter fun q => !holdsB q.1.1 v).map fun q => q.2).sum := fun b hb => by
      cases b <;> simp [List.filter_append, hb, List.sum_append]
    refine' st_ifP (b := !holdsB q.1.1 v) ?u5 (fun hb => ?u6) fun hb => st_nil ⟨_, _, _, ?u7⟩
    case u7 => rw [sum_ _ hb]; rfl
    case u6 =>
      refine' st_setP (d := .int (((pre.filter fun q => !holdsB q.1.1 v).map fun q => q.2).sum + q.2)) (by decide) ?u66 ⟨.d (softD q.1), .d (.int q.2), c, ?u67⟩
      case u66 => walk_at "ev"
      case u67 => rw [sum_ _ hb]; rfl
    case u5 =>
      refine' tpp_not (tpp_tr (d := .bl (holdsB q.1.1 v)) ?u8 rfl)
      case u8 =>
        unfold holdsB
        refine' EvP.b (evp_cb ?u9 v_any)
        case u9 =>
          refine' EvP.b (EvF.p (evf_lcA (xs := q.1.1) (f := D.int) ?u10 k3 ?u11))
          case u10 => walk_at "wk"
          case u11 =>
            intro l hl
            refine ⟨_, gt_name, ?_⟩
            have hl' := hat l hl
            unfold litB
            walk_at "ev"
abbrev s_prices_of : Stmt := top 46
theorem sc_prices_of : FnScope ["problem", "lists", "values", "weights"] ["problem", "lists", "values"] (defScope s_prices_of) := ⟨rfl, rfl, rfl, by decide +kernel, rfl, by decide +kernel, by decide +kernel⟩
def ct_pricesOf (C : Addr) : Ct := fun S R => ∃ (p : Pb) (ls : List (List Int)) (v : List Int), S = [.d (probD C p), .d (.tup (ls.map intsD)), .d (clD v)] ∧ Val p.count v ∧ PbOk p ∧ ls.length ≤ 1000 ∧ R (clD (ls.map fun ws => secP p ws v)) [.no, .no, .no]
theorem c_prices_of (F : FunAt K mg "prices_of" s_prices_of ["problem", "lists", "values"]) (T : Txt K mg CProblem CModel CProgram)
    (c_second_price : Cal P w K mg base "second_price" 1 ["problem", "seconds", "values"] (spD K (ct_second CProblem)))
    : Cal P w K mg base "prices_of" 2 ["problem", "lists", "values"] (spD K (ct_pricesOf CProblem)) := by
  refine okC F sc_prices_of (fun S R h => ?_) fun f cdv A outer s H E hr => ?_
  · obtain ⟨p, ls, v, rfl, hv, ok, hl, hR⟩ := h; rfl
  have hu1 := hu1_of hr; have hu64 := hu64_of hr; have hu65 := hu65_of hr
  refine ⟨_, (by exact (pss_one (by exact (ps_ret (by exact (k_tupleOf (K := K) rfl (by rfl) T.n_tuple (by exact (pe_lc (own := [("weights", 3)]) rfl sc_prices_of.nd (by exact (k_sq (K := K) rfl (by exact (pv 1)))) (blkOk_by (own := [("weights", 3)]) (by kernel_rfl)) (by intros; exact (by exact (pg_name (i := 3) sc_prices_of.nd rfl (Or.inl rfl)))) (by intros; exact pts_nil) (by intros; exact (by exact (pe_cal c_second_price (hr.mono (by first | decide | omega)) (by rfl) (by exact (pa_cons (by exact (pv 0)) (by exact (pa_cons (by exact (pv 3)) (by exact (pa_cons (by exact (pv 2)) pa_nil (by rfl))) (by rfl))) (by rfl)))))) (by intro _; rfl))) (by rfl))))))), fun S R h => ?_⟩
  clear hu1 hu64 hu65 hr F T
  obtain ⟨p, ls, v, rfl, hv, ok, hl, hR⟩ := h
  refine ⟨[], by decide, fun i hi => (by cases hi), ?_⟩
  refine st_imp (show slot0 _ [M.d (probD CProblem p), .d (.tup (ls.map intsD)), .d (clD v)] = [M.d (probD CProblem p), .d (.tup (ls.map intsD)), .d (clD v), .no] from rfl) ?_
  have hl2 : ls.length ≤ 50000 := by omega
  have hm : (M.d (probD CProblem p)).rd (probD CProblem p) := rfl
  refine' st_retP (d := clD (ls.map fun ws => secP p ws v)) (EvP.is (d := .tup (ls.map fun ws => .int (secP p ws v))) ?u1 (by simp [clD, Function.comp_def])) ⟨le_rt rfl, hR⟩
  case u1 =>
    refine' evp_then (EvP.b (EvF.p (evf_lcA (xs := ls) (f := intsD) ?u2 hl2 ?u3))) v_tupl
    case u2 => walk_at "wk"
    case u3 =>
      intro ws hw
      refine ⟨_, gt_name, ?_⟩
      walk_at "ev"
abbrev s_law_base : Stmt := top 58
theorem sc_law_base : FnScope ["count", "hard", "soft", "found", "k"] ["count", "hard", "soft"] (defScope s_law_base) := ⟨rfl, rfl, rfl, by decide +kernel, rfl, by decide +kernel, by decide +kernel⟩
def ct_lbase : Ct := fun S R => ∃ (p : Pb), S = [.d (.int p.count), .d (.tup (p.hard.map clD)), .d (.tup (p.soft.map softD))] ∧ PbOk p ∧ R (.lst ((baseOf p).map clD)) [.no, .no, .no]
theorem c_law_base (F : FunAt K mg "_law_base" s_law_base ["count", "hard", "soft"]) (T : Txt K mg CProblem CModel CProgram)
    : Cal P w K mg base "_law_base" 1 ["count", "hard", "soft"] (spD K (ct_lbase)) := by
  refine okC F sc_law_base (fun S R h => ?_) fun f cdv A outer s H E hr => ?_
  · obtain ⟨p, rfl, ok, hR⟩ := h; rfl
  have hu1 := hu1_of hr; have hu64 := hu64_of hr; have hu65 := hu65_of hr
  refine ⟨_, (by exact (pss_cons (by exact (ps_set (i := 3) sc_law_base.nd rfl (Or.inl rfl) (by exact (k_callTy (kr_list (K := K) rfl) (by rfl) T.n_list (by decide +kernel) (by exact (pa_cons (by exact (pv 1)) pa_nil (by rfl))) (by decide) (by decide) (by rfl) (by rfl)))))
      (by exact (pss_cons (by exact (ps_for PassesOwn.never rfl (by exact (pi_range1 rfl T.n_range (by exact (pa_cons (by exact (k_callB (kr_len (K := K) rfl) (by rfl) T.n_len (by decide +kernel) (by exact (pa_cons (by exact (pv 2)) pa_nil (by rfl))) (by decide) (by decide) (by rfl) (by rfl))) pa_nil (by rfl))))) (by exact (pg_name (i := 4) sc_law_base.nd rfl (Or.inl rfl))) (by exact (pss_one (by exact (ps_expr (by exact (pe_bm PySem.F.plainAttrs_list PySem.F.slot_list_append PySem.F.type_list_append mt_append (by exact (pv 3)) (by exact (pa_cons (by exact (k_add (K := K) rfl (by exact (k_sub (K := K) rfl hu1 (by exact (k_sub (K := K) rfl hu1 (by exact (pv 2)) (by exact (pv 4)) (fun _ _ => rfl) (fun _ _ => rfl))) (by exact pe_int) (fun _ _ => rfl) (fun _ _ => rfl))) (by exact (pe_tup (by exact (pa_cons (by exact (k_add (K := K) rfl (by exact (k_add (K := K) rfl (by exact (pv 0)) (by exact pe_int))) (by exact (pv 4)))) pa_nil (by rfl))))))) pa_nil (by rfl)))))))))))
      (by exact (pss_one (by exact (ps_ret (by exact (pv 3)))))))))), fun S R h => ?_⟩
  clear hu1 hu64 hu65 hr F T
  obtain ⟨p, rfl, ok, hR⟩ := h
  refine ⟨[], by decide, fun i hi => (by cases hi), ?_⟩
  refine st_imp (show slot0 _ [M.d (.int p.count), .d (.tup (p.hard.map clD)), .d (.tup (p.soft.map softD))] = [M.d (.int p.count), .d (.tup (p.hard.map clD)), .d (.tup (p.soft.map softD)), .no, .no] from rfl) ?_
  have hl := ok.hl; have sl := ok.sl; have cn := ok.cnt
  refine st_seq (st_setF (d := .lst (p.hard.map clD)) (by decide) (by walk_at "ev") ?u1)
  case u1 =>
  refine' st_seq (st_for (vs := [4]) (ds := rgD 0 p.soft.length) (fun i S' => ∃ (a : M), S' = [M.d (.int p.count), .d (.tup (p.hard.map clD)), .d (.tup (p.soft.map softD)), .o (.lst ((p.hard ++ (p.soft.zipIdx.take i).map fun q => q.1.1 ++ [(p.count : Int) + 1 + (q.2 : Nat)]).map clD)), a]) (wkp_rng1 ?u2 (by omega)) (by decide) ?u3 ?u4 ?u5)
  case u2 => exact EvP.b (EvP.is (d := .int ((p.soft.map softD).length : Nat)) (by walk_at "ev") (by rw [List.length_map]))
  case u3 => exact ⟨.no, by rw [List.take_zero, List.map_nil, List.append_nil]; rfl⟩
  case u5 =>
    rintro S' ⟨a, rfl⟩
    have e : (rgD 0 p.soft.length).length = p.soft.length := by simp [rgD]
    rw [e, List.take_of_length_le (by rw [List.length_zipIdx]; exact Nat.le_refl _)]
    exact st_frz (i := 3) rfl rfl (by decide) (st_retP (d := .lst ((baseOf p).map clD)) (evp_var rfl) ⟨le_rt rfl, hR⟩)
  case u4 =>
    rintro i d S' hd ⟨a, rfl⟩
    obtain ⟨hi, rfl⟩ := rgD_get hd
    refine ⟨_, gt_name, ?_⟩
    have hs := List.getElem_mem hi
    have hc := (ok.soft _ hs).1.len
    have hat : atI (p.soft.map softD) (0 + ((i : Nat) : Int)) = some (softD p.soft[i]) := by
      rw [Int.zero_add]
      exact atI_nat (by rw [List.getElem?_map, List.getElem?_eq_getElem hi]; rfl)
    have htk : p.soft.zipIdx.take (i + 1) = p.soft.zipIdx.take i ++ [(p.soft[i], i)] := by
      rw [List.take_add_one, List.getElem?_zipIdx, List.getElem?_eq_getElem hi]; simp
    refine' st_expr (evn_append rfl (EvP.n (d := clD (p.soft[i].1 ++ [(p.count : Int) + 1 + (i : Nat)])) ?v1 ⟨_, rfl, ?v2, .d (.int (0 + (i : Nat))), ?v3⟩))
    case v2 => rw [List.length_map, List.length_append, List.length_map, List.length_take]; omega
    case v3 =>
      rw [htk]
      have eS : (p.hard ++ (p.soft.zipIdx.take i).map fun q => q.1.1 ++ [(p.count : Int) + 1 + (q.2 : Nat)]).map clD ++ [clD (p.soft[i].1 ++ [(p.count : Int) + 1 + (i : Nat)])] = (p.hard ++ (p.soft.zipIdx.take i ++ [(p.soft[i], i)]).map fun q => q.1.1 ++ [(p.count : Int) + 1 + (q.2 : Nat)]).map clD := by simp
      rw [← eS]
      rfl
    case v1 =>
      refine' EvP.is (evp_op (x := clD p.soft[i].1) (y := .tup [.int ((p.count : Int) + 1 + (0 + (i : Nat)))]) ?v4 ?v5 (v_catt (by simp; omega))) ?v6
      case v6 => simp
      case v5 => walk_at "ev"
      case v4 =>
        refine' EvP.b (evp_ix (x := softD p.soft[i]) (y := .int 0) ?v7 ?v8 (v_ixt rfl))
        case v8 => walk_at "ev"
        case v7 => walk_at "ev"
end
/-! The names v1 .. v5, terms of clauses. -/
open PySem PySem.Spec L2 Evl PyProof.Rows Dl
def nmI (i : Int) : PySem.Str := ("v" : PySem.Str) ++ (PySem.Str.ofString (toString i))
def tens : List Int := [-5, -4, -3, -2, -1, 0, 1, 2, 3, 4, 5]
def fives : List Int := [1, 2, 3, 4, 5]
theorem ten {i : Int} (h : i.natAbs ≤ 5) : i ∈ tens := by
  have : i = -5 ∨ i = -4 ∨ i = -3 ∨ i = -2 ∨ i = -1 ∨ i = 0 ∨ i = 1 ∨ i = 2 ∨ i = 3 ∨ i = 4 ∨ i = 5 := by omega
  unfold tens
  simp
  omega
theorem five {i : Int} (h : 1 ≤ i ∧ i ≤ 5) : i ∈ fives := by
  unfold fives
  simp
  omega
theorem nm_len0 : ∀ i ∈ tens, ("v" : PySem.Str).length + (PySem.Str.ofString (toString i)).length ≤ 100000 := by decide +kernel
theorem nm_len {i : Int} (h : i.natAbs ≤ 5) : ("v" : PySem.Str).length + (PySem.Str.ofString (toString i)).length ≤ 100000 := nm_len0 i (ten h)
theorem nm_log0 : ∀ i ∈ tens, i.natAbs.log2 < 1920 := by decide +kernel
theorem nm_log {i : Int} (h : i.natAbs ≤ 5) : i.natAbs.log2 < 1920 := nm_log0 i (ten h)
theorem nm_ok0 : ∀ i ∈ tens, PySem.PyData.strOk (nmI i) = true := by decide +kernel
theorem nm_ok {i : Int} (h : i.natAbs ≤ 5) : PySem.PyData.strOk (nmI i) = true := nm_ok0 i (ten h)
theorem nm_inj0 : ∀ i ∈ tens, ∀ j ∈ tens, nmI i = nmI j → i = j := by decide +kernel
theorem nm_inj {i j : Int} (h : i.natAbs ≤ 5) (k : j.natAbs ≤ 5) (e : nmI i = nmI j) : i = j := nm_inj0 i (ten h) j (ten k) e
theorem nm_lt0 : ∀ i ∈ fives, ∀ j ∈ fives, ltCps (nmI j).cps.toList (nmI i).cps.toList = false → i ≤ j := by decide +kernel
def SIGNSs : List PySem.Str := ["not", "and", "or", "then", "same", "unlike", "least", "most"]
def lettersS : PySem.Str := "abcdefghijklmnopqrstuvwxyz"
def digitsS : PySem.Str := "0123456789"
structure NmOk (z : PySem.Str) : Prop where
  ok : PySem.PyData.strOk z = true
  ne : z ≠ ""
  len : z.length ≤ 100000
  hd : ∃ c : Nat, atI z.cps.toList 0 = some c ∧ c ∈ lettersS.cps.toList
  sg : z ∉ SIGNSs
  tf : z ∉ (["true", "false", "of"] : List PySem.Str)
  ln : z.length < 20
  all : ∀ c ∈ z.cps.toList, c ∈ (lettersS ++ digitsS).cps.toList
theorem nm_name {i : Int} (h : 1 ≤ i ∧ i ≤ 5) : NmOk (nmI i) where
  ok := nm_ok (by omega)
  ne := (by decide +kernel : ∀ i ∈ fives, nmI i ≠ "") i (five h)
  len := (by decide +kernel : ∀ i ∈ fives, (nmI i).length ≤ 100000) i (five h)
  hd := ⟨118, (by decide +kernel : ∀ i ∈ fives, atI (nmI i).cps.toList 0 = some 118) i (five h), by decide +kernel⟩
  sg := (by decide +kernel : ∀ i ∈ fives, nmI i ∉ SIGNSs) i (five h)
  tf := (by decide +kernel : ∀ i ∈ fives, nmI i ∉ (["true", "false", "of"] : List PySem.Str)) i (five h)
  ln := (by decide +kernel : ∀ i ∈ fives, (nmI i).length < 20) i (five h)
  all := (by decide +kernel : ∀ i ∈ fives, ∀ c ∈ (nmI i).cps.toList, c ∈ (lettersS ++ digitsS).cps.toList) i (five h)
/-! sorting names -/
theorem rising_nm : ∀ {js : List Int} {p : Int}, p ∈ fives → (∀ j ∈ js, j ∈ fives) → risingS (nmI p) (js.map nmI) = true → (p :: js).Pairwise (· ≤ ·)
  | [], p, _, _, _ => List.pairwise_singleton _ _
  | x :: js, p, hp, hj, h => by
    rw [List.map_cons] at h
    unfold risingS at h
    rw [Bool.and_eq_true, Bool.not_eq_true'] at h
    have hx := hj x (by simp)
    have hpx := nm_lt0 p hp x hx h.1
    have r := rising_nm hx (fun j q => hj j (List.mem_cons_of_mem _ q)) h.2
    refine List.Pairwise.cons (fun y hy => ?_) r
    rcases List.mem_cons.mp hy with rfl | hy
    · exact hpx
    · exact Int.le_trans hpx (List.rel_of_pairwise_cons r hy)
theorem sorted_nm : ∀ {js : List Int}, (∀ j ∈ js, j ∈ fives) → sortedS (js.map nmI) = true → js.Pairwise (· ≤ ·)
  | [], _, _ => List.Pairwise.nil
  | p :: js, hj, h => rising_nm (hj p (by simp)) (fun j q => hj j (List.mem_cons_of_mem _ q)) h
theorem five_ten {i : Int} (h : i ∈ fives) : i.natAbs ≤ 5 := by
  unfold fives at h
  simp at h
  omega
theorem sort_nm {is : List Int} {ys : List PySem.Str} (hp : is.Pairwise (· < ·)) (hb : ∀ i ∈ is, i ∈ fives) (p : ys.Perm (is.map nmI)) (s : sortedS ys = true) : ys = is.map nmI := by
  have hd : ∀ y ∈ ys, ∃ i ∈ is, nmI i = y := fun y hy => List.mem_map.mp (p.mem_iff.mp hy)
  let dec : PySem.Str → Int := fun y => (is.find? fun i => decide (nmI i = y)).getD 0
  have h1 : ∀ y ∈ ys, dec y ∈ is ∧ nmI (dec y) = y := fun y hy => by
    obtain ⟨i, hi, e⟩ := hd y hy
    cases q : is.find? fun i => decide (nmI i = y) with
    | none =>
      have := List.find?_eq_none.mp q i hi
      simp [e] at this
    | some j =>
      have e1 : dec y = j := by show (is.find? _).getD 0 = j; rw [q]; rfl
      rw [e1]
      exact ⟨List.mem_of_find?_eq_some q, of_decide_eq_true (by have := List.find?_some q; simpa using this)⟩
  have h2 : ∀ i ∈ is, dec (nmI i) = i := fun i hi => by
    have := h1 (nmI i) (p.mem_iff.mpr (List.mem_map.mpr ⟨i, hi, rfl⟩))
    exact nm_inj (five_ten (hb _ this.1)) (five_ten (hb _ hi)) this.2
  have e1 : ys = (ys.map dec).map nmI := by
    rw [List.map_map]
    conv => lhs; rw [← List.map_id ys]
    exact List.map_congr_left fun y hy => (h1 y hy).2.symm
  have p2 : (ys.map dec).Perm is := by
    have := p.map dec
    rw [List.map_map] at this
    have e2 : is.map (dec ∘ nmI) = is := by
      conv => rhs; rw [← List.map_id is]
      exact List.map_congr_left fun i hi => h2 i hi
    rwa [e2] at this
  have hj : ∀ j ∈ ys.map dec, j ∈ fives := fun j hj => hb j (p2.mem_iff.mp hj)
  have s2 : (ys.map dec).Pairwise (· ≤ ·) := sorted_nm hj (by rw [← e1]; exact s)
  have s3 : is.Pairwise (· ≤ ·) := hp.imp fun h => Int.le_of_lt h
  have e3 : ys.map dec = is := (isort_uniq p2 s2).trans (isort_uniq (List.Perm.refl _) s3).symm
  rw [e1, e3]
/-! terms -/
def nameT (i : Int) : D := .tup [.str "name", .str (nmI i)]
def litT (l : Int) : D := if 0 < l then nameT l else .tup [.str "not", nameT (0 - l)]
def termD (c : List Int) : D := if c = [] then .tup [.str "false"] else .tup (.str "or" :: c.map litT)
theorem litT_at (l : Int) : atI [.tup [.str "not", nameT (0 - l)], nameT l] (b2i (decide (0 < l))) = some (litT l) := by
  unfold litT b2i
  by_cases h : 0 < l
  · rw [decide_eq_true h, if_pos h]; rfl
  · rw [decide_eq_false h, if_neg h]; rfl
theorem termD_at (c : List Int) : atI [.tup (.str "or" :: c.map litT), .tup [.str "false"]] (b2i (decide (c = []))) = some (termD c) := by
  unfold termD b2i
  by_cases h : c = []
  · rw [decide_eq_true h, if_pos h]; rfl
  · rw [decide_eq_false h, if_neg h]; rfl
theorem litT_py0 : ∀ l ∈ tens, (litT l).isPy = true ∧ (litT l).py.canLay0 = true ∧ (litT l).py.depth ≤ 5 := by decide +kernel
theorem litT_py {l : Int} (h : l.natAbs ≤ 5) : (litT l).isPy = true ∧ (litT l).py.canLay0 = true ∧ (litT l).py.depth ≤ 5 := litT_py0 l (ten h)
/-! the names of a term -/
inductive Tq where
  | or_ (c : List Int)
  | li (l : Int)
  | nm (i : Int)
namespace Tq
def d : Tq → D
  | .or_ c => termD c
  | .li l => litT l
  | .nm i => nameT i
def flat : Tq → List Int
  | .or_ c => (c.map fun l => ((l.natAbs : Nat) : Int)).reverse
  | .li l => [((l.natAbs : Nat) : Int)]
  | .nm i => [i]
def wt : Tq → Nat
  | .or_ c => 1 + 2 * c.length
  | .li _ => 2
  | .nm _ => 1
def flats (xs : List Tq) : List Int := xs.reverse.flatMap flat
def wts (xs : List Tq) : Nat := (xs.map wt).sum
theorem flats_add (xs : List Tq) (t : Tq) : flats (xs ++ [t]) = t.flat ++ flats xs := by
  unfold flats
  rw [List.reverse_append, List.reverse_singleton, List.singleton_append, List.flatMap_cons]
theorem wts_add (xs : List Tq) (t : Tq) : wts (xs ++ [t]) = wts xs + t.wt := by simp [wts, List.sum_append]
theorem wts_l (xs : List Tq) (c : List Int) : wts (xs ++ c.map Tq.li) = wts xs + 2 * c.length := by
  unfold wts
  rw [List.map_append, List.sum_append, List.map_map]
  have : (c.map (wt ∘ Tq.li)).sum = 2 * c.length := by
    induction c with
    | nil => rfl
    | cons a c ih => rw [List.map_cons, List.sum_cons, ih]; simp [wt]; omega
  omega
theorem flats_l (xs : List Tq) (c : List Int) : flats (xs ++ c.map Tq.li) = (c.map fun l => ((l.natAbs : Nat) : Int)).reverse ++ flats xs := by
  unfold flats
  rw [List.reverse_append, List.flatMap_append, ← List.map_reverse, ← List.map_reverse]
  congr 1
  rw [List.flatMap_map]
  induction c.reverse with
  | nil => rfl
  | cons a c ih => rw [List.flatMap_cons, ih]; rfl
end Tq
def kN (i : Int) : Key := Sum.inr (nmI i)
theorem kN_no {acc : List Int} {i : Int} (h : ∀ j ∈ acc, j.natAbs ≤ 5) (hi : i.natAbs ≤ 5) (n : i ∉ acc) : pAny (acc.map kN) (kN i) = false := by
  unfold pAny
  rw [List.any_map, Bool.eq_false_iff]
  intro z
  obtain ⟨j, hj, e⟩ := List.any_eq_true.mp z
  have e2 : kN j = kN i := of_decide_eq_true e
  have e3 := nm_inj (h j hj) hi (Sum.inr.inj e2)
  exact n (e3 ▸ hj)
theorem pK_new {ks : List Key} {k : Key} (h : pAny ks k = false) : pK ks k = ks ++ [k] := by unfold pK; rw [h]; rfl
theorem pX_new {ks : List Key} {xs : List D} {k : Key} {d : D} (h : pAny ks k = false) : pX ks xs k d = xs ++ [d] := by unfold pX; rw [h]; rfl
/-! a model, a program of a problem -/
def nmL (n : Nat) : List PySem.Str := (List.range n).map fun (i : Nat) => nmI ((i : Int) + 1)
theorem nmL_mem {n : Nat} {i : Int} (h : 1 ≤ i ∧ i ≤ n) : nmI i ∈ nmL n := by
  refine List.mem_map.mpr ⟨(i - 1).toNat, List.mem_range.mpr (by omega), ?_⟩
  have : (((i - 1).toNat : Nat) : Int) + 1 = i := by omega
  rw [this]
theorem nmL_ok {n : Nat} (hn : n ≤ 5) : ∀ z ∈ nmL n, NmOk z := fun z hz => by
  obtain ⟨i, hi, rfl⟩ := List.mem_map.mp hz
  have := List.mem_range.mp hi
  exact nm_name (by omega)
theorem nmL_nd {n : Nat} (hn : n ≤ 5) : (nmL n).Nodup := by
  unfold nmL List.Nodup
  rw [List.pairwise_map]
  refine (List.nodup_range (n := n)).imp_of_mem ?_
  intro a b ha hb h z
  have h1 := List.mem_range.mp ha
  have h2 := List.mem_range.mp hb
  have := nm_inj (by omega) (by omega) z
  omega
theorem nmL_len (n : Nat) : (nmL n).length = n := by simp [nmL]
def costD (s : List Int × Int) : D := .tup [.int s.2, .bl false, termD s.1]
def modD (C : Addr) (p : Pb) : D := .ins C ["names", "rules", "costs"] [.tup ((nmL p.count).map D.str), .tup (p.hard.map termD), .tup (p.soft.map costD)]
def wtD (q : Int × Int) : D := .tup [.int q.1, .int q.2]
def progD (C : Addr) (n : Int) (cs : List (Int × Int)) : D := .ins C ["count", "rows", "costs"] [.int n, .tup [], .tup (cs.map wtD)]
/-! what a term comes to -/
def toldK (n : Nat) : List Key := (List.range n).map fun (i : Nat) => kN ((i : Int) + 1)
theorem told_at {n : Nat} {v : List Int} (hv : v.length = n) (hn : n ≤ 5) {i : Int} (h1 : 1 ≤ i) (h2 : i ≤ n) : lkD (toldK n) (v.map D.int) (Sum.inr (nmI i)) = some (.int (v.getD (i.natAbs - 1) 0)) := by
  have key : ∀ (m k : Nat) (us : List Int), us.length = m → k + m ≤ 5 → (k : Int) < i → i ≤ k + m → lkD ((List.range' k m).map fun (i : Nat) => kN ((i : Int) + 1)) (us.map D.int) (Sum.inr (nmI i)) = some (.int (us.getD (i.natAbs - 1 - k) 0)) := by
    intro m
    induction m with
    | zero => intro k us h _ a b; omega
    | succ m ih =>
      intro k us h hb a b
      cases us with
      | nil => simp at h
      | cons u us =>
        rw [List.range'_succ, List.map_cons, List.map_cons]
        unfold lkD
        by_cases q : i = (k : Int) + 1
        · subst q
          rw [if_pos (by rfl)]
          have : ((k : Int) + 1).natAbs - 1 - k = 0 := by omega
          rw [this]; rfl
        · have ne : ¬ kN ((k : Int) + 1) = Sum.inr (nmI i) := fun z => q (nm_inj (by omega) (by omega) (Sum.inr.inj z)).symm
          rw [if_neg ne, ih (k + 1) us (by simpa using h) (by omega) (by omega) (by omega)]
          have : i.natAbs - 1 - k = i.natAbs - 1 - (k + 1) + 1 := by omega
          rw [this]; rfl
  have := key n 0 v hv (by omega) (by omega) (by omega)
  rw [← List.range_eq_range'] at this
  exact this
namespace Tq
def val (v : List Int) : Tq → Bool
  | .or_ c => holdsB c v
  | .li l => litB l v
  | .nm i => decide (v.getD (i.natAbs - 1) 0 = 1)
def okv (n lev : Nat) : Tq → Prop
  | .or_ c => (∀ l ∈ c, LitOk n l) ∧ c.length ≤ 5 ∧ 3 ≤ lev
  | .li l => LitOk n l ∧ 2 ≤ lev
  | .nm i => (1 ≤ i ∧ i ≤ n) ∧ 1 ≤ lev
/-- the four looks of a term -/
def looks (n lev : Nat) (v : List Int) (d : D) (b : Bool) : Prop :=
  (∃ i : Int, d = nameT i ∧ (1 ≤ i ∧ i ≤ n) ∧ b = decide (v.getD (i.natAbs - 1) 0 = 1)) ∨
  (∃ i : Int, d = .tup [.str "not", nameT i] ∧ (1 ≤ i ∧ i ≤ n) ∧ 1 ≤ lev ∧ b = !decide (v.getD (i.natAbs - 1) 0 = 1)) ∨
  (∃ c : List Int, d = .tup (.str "or" :: c.map litT) ∧ (∀ l ∈ c, LitOk n l) ∧ c.length ≤ 5 ∧ 2 ≤ lev ∧ b = holdsB c v) ∨
  (d = .tup [.str "false"] ∧ b = false)
theorem look {n lev : Nat} {v : List Int} (hv : Val n v) : ∀ t : Tq, t.okv n (lev + 1) → looks n lev v t.d (t.val v)
  | .nm i, h => .inl ⟨i, rfl, h.1, rfl⟩
  | .or_ c, h => by
    by_cases q : c = []
    · subst q
      exact .inr (.inr (.inr ⟨rfl, rfl⟩))
    · refine .inr (.inr (.inl ⟨c, ?_, h.1, h.2.1, by have := h.2.2; omega, rfl⟩))
      show termD c = _
      unfold termD
      rw [if_neg q]
  | .li l, h => by
    have h1 := h.1
    have h2 : 2 ≤ lev + 1 := h.2
    have hl := hv.len
    unfold LitOk at h1
    by_cases q : 0 < l
    · refine .inl ⟨l, ?_, by omega, ?_⟩
      · show litT l = _
        unfold litT; rw [if_pos q]
      · show litB l v = _
        unfold litB b2i; rw [decide_eq_true q]; rfl
    · refine .inr (.inl ⟨0 - l, ?_, by omega, by omega, ?_⟩)
      · show litT l = _
        unfold litT; rw [if_neg q]
      · show litB l v = _
        have e : (0 - l).natAbs = l.natAbs := by omega
        have hi : l.natAbs - 1 < v.length := by omega
        have hb := hv.bin (v.getD (l.natAbs - 1) 0) (by rw [List.getD_eq_getElem?_getD, List.getElem?_eq_getElem hi]; exact List.getElem_mem hi)
        unfold litB b2i; rw [decide_eq_false q, e]
        rcases hb with z | z <;> rw [z] <;> rfl
theorem len_wts : ∀ xs : List Tq, xs.length ≤ wts xs
  | [] => Nat.zero_le _
  | x :: xs => by
    have := len_wts xs
    unfold wts at *
    rw [List.map_cons, List.sum_cons, List.length_cons]
    have : 1 ≤ x.wt := by cases x <;> simp [wt] 
    omega
def looks2 (d : D) (fl : List Int) (wt : Nat) : Prop :=
  (∃ i : Int, d = nameT i ∧ (1 ≤ i ∧ i ≤ 5) ∧ fl = [i] ∧ 1 ≤ wt) ∨
  (∃ i : Int, d = .tup [.str "not", nameT i] ∧ (1 ≤ i ∧ i ≤ 5) ∧ fl = [i] ∧ 2 ≤ wt) ∨
  (∃ c : List Int, d = .tup (.str "or" :: c.map litT) ∧ (∀ l ∈ c, LitOk 5 l) ∧ c.length ≤ 5 ∧ fl = (c.map fun l => ((l.natAbs : Nat) : Int)).reverse ∧ wt = 1 + 2 * c.length) ∨
  (d = .tup [.str "false"] ∧ fl = [] ∧ 1 ≤ wt)
theorem look2 : ∀ t : Tq, t.okv 5 3 → looks2 t.d t.flat t.wt
  | .nm i, h => .inl ⟨i, rfl, by have := h.1; omega, rfl, Nat.le_refl _⟩
  | .or_ c, h => by
    by_cases q : c = []
    · subst q
      exact .inr (.inr (.inr ⟨rfl, rfl, Nat.le_refl _⟩))
    · refine .inr (.inr (.inl ⟨c, ?_, h.1, h.2.1, rfl, rfl⟩))
      show termD c = _
      unfold termD
      rw [if_neg q]
  | .li l, h => by
    have h1 := h.1
    unfold LitOk at h1
    by_cases q : 0 < l
    · refine .inl ⟨l, ?_, by omega, ?_, by show 1 ≤ 2; omega⟩
      · show litT l = _
        unfold litT; rw [if_pos q]
      · show [((l.natAbs : Nat) : Int)] = [l]
        have : ((l.natAbs : Nat) : Int) = l := by omega
        rw [this]
    · refine .inr (.inl ⟨0 - l, ?_, by omega, ?_, Nat.le_refl _⟩)
      · show litT l = _
        unfold litT; rw [if_neg q]
      · show [((l.natAbs : Nat) : Int)] = [0 - l]
        have : ((l.natAbs : Nat) : Int) = 0 - l := by omega
        rw [this]
end Tq
section
variable {K : PySem.W.Frag} {S : List M} {ta tb tx : TE} {d : D}
theorem pys_all : ∀ {xs : List D}, (∀ d ∈ xs, d.isPy = true ∧ d.py.canLay0 = true ∧ d.py.depth ≤ 5) → D.isPys xs = true ∧ PyData.canLayAll0 (D.pys xs) = true ∧ PyData.depthAll (D.pys xs) ≤ 5
  | [], _ => ⟨rfl, rfl, Nat.zero_le _⟩
  | x :: xs, h => by
    obtain ⟨a, b, c⟩ := pys_all fun d hd => h d (List.mem_cons_of_mem _ hd)
    obtain ⟨p, q, r⟩ := h x (by simp)
    simp only [D.isPys, D.pys, PyData.canLayAll0, PyData.depthAll, p, q, a, b, Bool.and_self, true_and]
    exact Nat.max_le.mpr ⟨r, c⟩
theorem v_eq_lnil {xs : List D} (h : ∀ d ∈ xs, d.isPy = true ∧ d.py.canLay0 = true ∧ d.py.depth ≤ 5) : V2P K (rEqD K) (.lst xs) (.lst []) (.bl (decide (xs = []))) := by
  obtain ⟨a, b, c⟩ := pys_all h
  have := v_eq (K := K) (x := .lst xs) (y := .lst []) (by simp only [D.isPy]; exact a) rfl (by
    show ((D.lst xs).py.canLay0 && decide ((D.lst xs).py.depth ≤ 64)) = true
    simp only [D.py, PyData.canLay0, PyData.depth, b, Bool.true_and, decide_eq_true_eq]
    omega) (by decide +kernel)
  have e : PyData.eqv (D.lst xs).py (D.lst []).py = decide (xs = []) := by
    cases xs with
    | nil => rfl
    | cons x xs => simp [D.py, D.pys, PyData.eqv, PyData.eqvAll]
  rwa [e] at this
/-! dicts by texts -/
theorem evp_dgets {s : PySem.Str} {ks : List Key} {xs : List D} (ha : EvB K ta S (.dk ks xs)) (hb : EvB K tb S (.str s)) (h : lkD ks xs (.inr s) = some d) : EvP K (orE (tOp (rIx K) ta tb) (tDGet ta tb)) S d := evp_dget (k := .inr s) ha hb h
theorem evp_dnins {s : PySem.Str} {ks : List Key} {xs : List D} (ha : EvB K ta S (.str s)) (hb : EvB K tb S (.dk ks xs)) : EvP K (orE (tOp (ninU K) ta tb) (tDNotIn ta tb)) S (.bl (!(lkD ks xs (.inr s)).isSome)) := evp_dnin (k := .inr s) ha hb
theorem evo_sortDSs {R : D → List M → Prop} {ks : List PySem.Str} {xs : List D} (ha : EvB K ta S (.dk (ks.map Sum.inr) xs)) (hl : ks.length < 64) (r : ∀ ys : List PySem.Str, ys.Perm ks → sortedS ys = true → R (.lst (ys.map D.str)) S) : EvO K (tCB rSortedDS (tCons ta tNil)) S R := fun Pn pl G H0 H σ Rr Q q =>
  ha Pn pl G H0 H σ Rr _ fun v H01 H1 g1 e1 R1 p1 => by
    obtain ⟨a, vs, rfl, h1, h2, h3⟩ := p1.dk R1.e0
    refine ⟨a, _, ks, rfl, .inl h1, zip_fst h2, hl, fun ys p pm hs hp => ?_⟩
    obtain ⟨R2, n0, ng, ap, e2⟩ := R1.new_own (o := .lst (ys.map V.str)) hp
    exact q _ S p H01 _ (r ys pm hs) g1 R2 n0 ng ap ⟨_, upd_same, rps_strs _ _⟩
/-! a tuple of texts among the constants -/
def TupS (K : PySem.W.Frag) (a : Addr) (ns : List PySem.Str) : Prop := ∃ (o : Obj) (its : Array Value) (n : Nat), K.lookup a = some o ∧ o.cls = .type "tuple" ∧ o.data = .seq its n ∧ its.size ≤ sizeLine ∧ Vals (ns.map V.str) its.toList
theorem TupS.sq {a : Addr} {ns : List PySem.Str} (h : TupS K a ns) (H : Hp) : SqT K H a (ns.map V.str) := .inr h
theorem evp_inC {s : PySem.Str} {a : Addr} {ns : List PySem.Str} {t2 : TE} (ha : EvP K ta S (.str s)) (h : TupS K a ns) : EvP K (orE (tOp (inU K) ta (tC (.ref a))) t2) S (.bl (decide (s ∈ ns))) := fun Pn pl G H0 H σ Rr Q q =>
  .inl (ha Pn pl G H0 H σ Rr _ fun v H01 H1 g1 e1 R1 p1 => by
    have p2 : v = V.str s := p1
    subst p2
    have h2 := q (.bl (decide (s ∈ ns))) H01 H1 g1 e1 R1 rfl
    rw [← inV_strs] at h2
    exact .inl ⟨a, _, rfl, .inr (h.sq H1), rfl, Dl.flat_strs ns, h2⟩)
end
open PySem PySem.Spec L2 Evl PyProof.Rows Dl

section
variable {P : Program} {w : World} {K : PySem.W.Frag} {mg : PySem.Str → Option Value} {base : Heap} {CProblem CModel CProgram : Addr}
abbrev s_law_as_term : Stmt := top 59
theorem sc_law_as_term : FnScope ["clause", "parts", "literal"] ["clause"] (defScope s_law_as_term) := ⟨rfl, rfl, rfl, by decide +kernel, rfl, by decide +kernel, by decide +kernel⟩
def ct_term : Ct := fun S R => ∃ c : List Int, S = [.d (clD c)] ∧ ClOk 5 c ∧ R (termD c) [.no]
theorem c_law_as_term (F : FunAt K mg "_law_as_term" s_law_as_term ["clause"]) (T : Txt K mg CProblem CModel CProgram)
    : Cal P w K mg base "_law_as_term" 1 ["clause"] (spD K (ct_term)) := by
  refine okC F sc_law_as_term (fun S R h => ?_) fun f cdv A outer s H E hr => ?_
  · obtain ⟨c, rfl, ok, hR⟩ := h; rfl
  have hu1 := hu1_of hr; have hu64 := hu64_of hr; have hu65 := hu65_of hr
  refine ⟨_, (by exact (pss_cons (by exact (ps_setLc (i := 1) (own := [("literal", 2)]) rfl sc_law_as_term.nd rfl rfl (sw_true rfl rfl rfl (by decide +kernel)) (by exact (k_sq (K := K) rfl (by exact (pv 0)))) (blkOk_by (own := [("literal", 2)]) (by kernel_rfl)) (by intros; exact (by exact (pg_name (i := 2) sc_law_as_term.nd rfl (Or.inl rfl)))) (by intros; exact pts_nil) (by intros; exact (by exact (k_sub (K := K) rfl hu1 (by exact (pe_tup (by exact (pa_cons (by exact (pe_tup (by exact (pa_cons (by exact pe_str) (by exact (pa_cons (by exact (pe_tup (by exact (pa_cons (by exact pe_str) (by exact (pa_cons (by exact (k_add (K := K) rfl (by exact pe_str) (by exact (k_callTy cr_strI (by rfl) T.n_str (by decide +kernel) (by exact (pa_cons (by exact (pe_op op_sub (by exact pe_int) (by exact (pv 2)))) pa_nil (by rfl))) (by decide) (by decide) (by rfl) (by rfl))))) pa_nil (by rfl))) (by rfl))))) pa_nil (by rfl))) (by rfl))))) (by exact (pa_cons (by exact (pe_tup (by exact (pa_cons (by exact pe_str) (by exact (pa_cons (by exact (k_add (K := K) rfl (by exact pe_str) (by exact (k_callTy cr_strI (by rfl) T.n_str (by decide +kernel) (by exact (pa_cons (by exact (pv 2)) pa_nil (by rfl))) (by decide) (by decide) (by rfl) (by rfl))))) pa_nil (by rfl))) (by rfl))))) pa_nil (by rfl))) (by rfl))))) (by exact (k_callTy cr_intU (by rfl) T.n_int (by decide +kernel) (by exact (pa_cons (by exact (pe_cmpR op_gt (by exact (pv 2)) (by exact pe_int) (nomark _))) pa_nil (by rfl))) (by decide) (by decide) (by rfl) (by rfl))) (fun _ _ => rfl) (fun _ _ => rfl))))))
      (by exact (pss_one (by exact (ps_ret (by exact (k_sub (K := K) rfl hu1 (by exact (pe_tup (by exact (pa_cons (by exact (k_add (K := K) rfl (by exact (pe_tup (by exact (pa_cons (by exact pe_str) pa_nil (by rfl))))) (by exact (k_tupleOf (K := K) rfl (by rfl) T.n_tuple (by exact (pv 1)) (by rfl))))) (by exact (pa_cons (by exact (pe_tup (by exact (pa_cons (by exact pe_str) pa_nil (by rfl))))) pa_nil (by rfl))) (by rfl))))) (by exact (k_callTy cr_intU (by rfl) T.n_int (by decide +kernel) (by exact (pa_cons (by exact (k_eq (K := K) rfl hu64 (by exact (pv 1)) (by exact (pe_lst pa_nil)))) pa_nil (by rfl))) (by decide) (by decide) (by rfl) (by rfl))) (fun _ _ => rfl) (fun _ _ => rfl))))))))), fun S R h => ?_⟩
  clear hu1 hu64 hu65 hr F T
  obtain ⟨c, rfl, ok, hR⟩ := h
  refine ⟨[], by decide, fun i hi => (by cases hi), ?_⟩
  refine st_imp (show slot0 _ [M.d (clD c)] = [M.d (clD c), .no, .no] from rfl) ?_
  have hl := ok.len
  have hl2 : c.length ≤ 50000 := by omega
  refine st_seq (st_setF (d := .lst (c.map litT)) (by decide) (evf_lcA (xs := c) (f := D.int) (r := litT) ?u2 hl2 ?u3) ?u1)
  case u2 => walk_at "wk"
  case u3 =>
    intro l hl
    have h5 : l.natAbs ≤ 5 := (ok.lit l hl).2
    have h6 : (0 - l).natAbs ≤ 5 := by omega
    refine ⟨_, gt_name, ?_⟩
    refine' evp_ix (x := .tup [.tup [.str "not", nameT (0 - l)], nameT l]) (y := .int (b2i (decide (0 < l)))) ?v1 ?v2 (v_ixt (litT_at l))
    case v2 => walk_at "ev"
    case v1 =>
      have a1 := nm_len h5
      have a2 := nm_len h6
      have b1 := nm_log h5
      have b2 := nm_log h6
      unfold nameT nmI
      refine' EvP.b (evp_tup (app_cons (evp_tup (app_cons evp_str (app_cons (evp_tup (app_cons evp_str (app_cons (evp_op evp_str.b (EvP.b (evp_cb (EvP.b (evp_op ?w1 ?w2 v_sub)) (v_stri b2))) (v_adds a2)) app_nil)) (le_rt rfl)) app_nil)) (le_rt rfl)) (app_cons (evp_tup (app_cons evp_str (app_cons (evp_op evp_str.b (EvP.b (evp_cb ?w3 (v_stri b1))) (v_adds a1)) app_nil)) (le_rt rfl)) app_nil)) (le_rt rfl))
      case w1 => walk_at "ev"
      case w2 => walk_at "ev"
      case w3 => walk_at "ev"
  case u1 =>
  show StN K [] _ [M.d (clD c), .o (.lst (c.map litT)), .no] _
  have hpy : ∀ d ∈ c.map litT, d.isPy = true ∧ d.py.canLay0 = true ∧ d.py.depth ≤ 5 := fun d hd => by
    obtain ⟨l, hl, rfl⟩ := List.mem_map.mp hd
    exact litT_py (ok.lit l hl).2
  refine' st_retP (d := termD c) (evp_ix (x := .tup [.tup (.str "or" :: c.map litT), .tup [.str "false"]]) (y := .int (b2i (decide (c = [])))) ?x1 ?x2 (v_ixt (termD_at c))) ⟨le_rt rfl, hR⟩
  case x1 =>
    refine' EvP.b (evp_tup (app_cons (EvP.is (d := .tup ([.str "or"] ++ c.map litT)) (evp_op ?y1 ?y2 (v_catt (by simp; omega))) rfl) (app_cons ?y3 app_nil)) (le_rt rfl))
    case y1 => walk_at "ev"
    case y2 => walk_at "ev"
    case y3 => walk_at "ev"
  case x2 =>
    refine' EvP.b (evp_cb (x := .bl (decide (c = []))) (EvP.b (EvP.is (d := .bl (decide (c.map litT = []))) (evp_op (x := .lst (c.map litT)) (y := .lst []) ?z1 ?z2 (v_eq_lnil hpy)) (by simp))) v_intb)
    case z1 => walk_at "ev"
    case z2 => walk_at "ev"
abbrev s_is_name : Stmt := top 29
theorem sc_is_name : FnScope ["word", "letters", "sign"] ["word"] (defScope s_is_name) := ⟨rfl, rfl, rfl, by decide +kernel, rfl, by decide +kernel, by decide +kernel⟩
def ct_isName : Ct := fun S R => ∃ z : PySem.Str, S = [.d (.str z)] ∧ NmOk z ∧ R (.bl true) [.no]
theorem c_is_name (F : FunAt K mg "is_name" s_is_name ["word"]) (T : Txt K mg CProblem CModel CProgram) (gS : ∃ a : Addr, mg "SIGNS" = some (.ref a) ∧ TupS K a SIGNSs) : Cal P w K mg base "is_name" 1 ["word"] (spD K ct_isName) := by
  refine okC F sc_is_name (fun S R h => ?_) fun f cdv A outer s H E hr => ?_
  · obtain ⟨z, rfl, _⟩ := h; rfl
  have hu1 := hu1_of hr; have hu64 := hu64_of hr; have hu65 := hu65_of hr
  refine ⟨_, (by exact (pss_cons (by exact (ps_set (i := 1) sc_is_name.nd rfl (Or.inr rfl) (by exact pe_str)))
      (by exact (pss_cons (by exact (ps_if (by exact (PW.pt (by exact (by exact (pw_or (by exact (kt_eq (K := K) rfl hu64 (by exact (pv 0)) (by exact pe_str))) (by exact (pw_or (by exact (kt_ninsg (by exact (k_sub (K := K) rfl hu1 (by exact (pv 0)) (by exact pe_int) (fun _ _ => rfl) (fun _ _ => rfl))) (by exact (pv 1)) (by rfl))) (by exact (pw_or (by exact (kt_in (K := K) rfl hu65 (by exact (pv 0)) (by exact (pe_glob (v := .ref (Classical.choose gS)) (by rfl) (Classical.choose_spec gS).1 rfl)) (by rfl))) (by exact (pw_or1 (by exact (kt_in (K := K) rfl hu65 (by exact (pv 0)) (by exact (pe_tup (by exact (pa_cons (by exact pe_str) (by exact (pa_cons (by exact pe_str) (by exact (pa_cons (by exact pe_str) pa_nil (by rfl))) (by rfl))) (by rfl))))) (by rfl)))))))))))))) (by exact (pss_one (by exact (ps_ret (by exact pe_bl))))) pss_nil))
      (by exact (pss_one (by exact (ps_ret (by exact (pe_and (by exact (pe_cmpR op_lt (by exact (k_callB (kr_len (K := K) rfl) (by rfl) T.n_len (by decide +kernel) (by exact (pa_cons (by exact (pv 0)) pa_nil (by rfl))) (by decide) (by decide) (by rfl) (by rfl))) (by exact pe_int) (nomark _))) (pe_one (by exact (k_callB (kr_all (K := K) rfl rfl) (by rfl) T.n_all (by decide +kernel) (by exact (pa_cons (by exact (pe_lc (own := [("sign", 2)]) rfl sc_is_name.nd (by exact (pi_str (by exact (pv 0)))) (blkOk_by (own := [("sign", 2)]) (by kernel_rfl)) (by intros; exact (by exact (pg_name (i := 2) sc_is_name.nd rfl (Or.inl rfl)))) (by intros; exact pts_nil) (by intros; exact (by exact (k_insg (by exact (pv 2)) (by exact (k_add (K := K) rfl (by exact (pv 1)) (by exact pe_str))) (by rfl)))) (by intro _; rfl))) pa_nil (by rfl))) (by decide) (by decide) (by rfl) (by rfl)))))))))))))), fun S R h => ?_⟩
  have tS := (Classical.choose_spec gS).2
  generalize Classical.choose gS = aS at tS ⊢
  clear hu1 hu64 hu65 hr F T
  obtain ⟨z, rfl, nz, hR⟩ := h
  refine ⟨[], by decide, fun i hi => (by cases hi), ?_⟩
  refine st_imp (show slot0 _ [.d (.str z)] = [M.d (.str z), .no, .no] from rfl) ?_
  obtain ⟨c, hc0, hcl⟩ := nz.hd
  have ok := nz.ok
  have nl := nz.len
  refine st_seq (st_setP (d := .str lettersS) (by decide) evp_str ?u1)
  case u1 =>
  show StN K [] _ [M.d (.str z), .d (.str lettersS), .no] _
  refine' st_seq (st_ifP (b := decide (z = "") || (!decide (c ∈ lettersS.cps.toList) || (decide (z ∈ SIGNSs) || decide (z ∈ (["true", "false", "of"] : List PySem.Str))))) ?t1 (fun hb => ?no) fun _ => st_nil ?u2)
  case no =>
    rw [decide_eq_false nz.ne, decide_eq_true hcl, decide_eq_false nz.sg, decide_eq_false nz.tf] at hb
    cases hb
  case t1 =>
    refine' tpp_or (tpp_test (evp_op ?t2 ?t3 (v_eqs ok (by decide +kernel)))) fun _ => tpp_or (tpp_test (evp_op (x := .str ⟨#[c]⟩) (y := .str lettersS) ?t4 ?t5 v_ninsg)) fun _ => tpp_or (tpp_test (evp_inC ?t6 tS)) fun _ => tpp_test (evp_in (y := .tup ((["true", "false", "of"] : List PySem.Str).map D.str)) ?t7 ?t8 v_in_strt)
    case t2 => walk_at "ev"
    case t3 => walk_at "ev"
    case t4 => exact EvP.b (evp_ix (x := .str z) (y := .int 0) (by walk_at "ev") (by walk_at "ev") (v_ixs nl hc0))
    case t5 => walk_at "ev"
    case t6 => walk_at "ev"
    case t7 => walk_at "ev"
    case t8 => exact EvP.b (evp_tup (app_cons evp_str (app_cons evp_str (app_cons evp_str app_nil))) (le_rt rfl))
  case u2 =>
  refine' st_retP (d := .bl true) (EvP.is (d := .bl (decide ((z.length : Int) < 20) && true)) (evp_andV ?v1 fun _ => ?v2) (by rw [decide_eq_true (by have := nz.ln; omega)]; rfl)) ⟨le_rt rfl, hR⟩
  case v1 => exact evp_op (EvP.b (evp_cb (x := .str z) (by walk_at "ev") (v_lens nl))) (by walk_at "ev") v_lt
  case v2 =>
    refine' EvP.is (d := .bl (z.cps.toList.all fun c => decide (c ∈ (lettersS ++ digitsS).cps.toList))) (evp_cb (EvP.b (EvF.p (evf_lcA (xs := z.cps.toList) (f := fun c => .str ⟨#[c]⟩) (r := fun c => .bl (decide (c ∈ (lettersS ++ digitsS).cps.toList))) ?w1 ?w2 ?w3))) v_all) ?w4
    case w4 => rw [List.all_eq_true.mpr fun c hc => decide_eq_true (nz.all c hc)]
    case w1 =>
      refine' WkP.b (wkp_str ?w5)
      case w5 => walk_at "ev"
    case w2 => have := nz.ln; show z.cps.size ≤ 50000; have e : z.cps.size = z.length := rfl; omega
    case w3 =>
      intro c hc
      refine ⟨_, gt_name, ?_⟩
      exact evp_op (x := .str ⟨#[c]⟩) (y := .str (lettersS ++ digitsS)) (by walk_at "ev") (EvP.b (evp_op (by walk_at "ev") evp_str.b (v_adds (by decide +kernel)))) v_insg
end
open PySem PySem.Spec L2 Evl PyProof.Rows Dl

section
variable {P : Program} {w : World} {K : PySem.W.Frag} {mg : PySem.Str → Option Value} {base : Heap} {CProblem CModel CProgram : Addr}
abbrev s_value_of : Stmt := top 31
theorem sc_value_of : FnScope ["term", "values", "kind", "told", "part", "count", "own"] ["term", "values"] (defScope s_value_of) := ⟨rfl, rfl, rfl, by decide +kernel, rfl, by decide +kernel, by decide +kernel⟩
def ct_val (lev : Nat) : Ct := fun S R => ∃ (n : Nat) (v : List Int) (m : M) (t : Tq), S = [.d t.d, m] ∧ m.rd (.dk (toldK n) (v.map D.int)) ∧ Val n v ∧ n ≤ 5 ∧ t.okv n lev ∧ R (.bl (t.val v)) [.no, .no]
theorem c_value_of (F : FunAt K mg "value_of" s_value_of ["term", "values"]) (T : Txt K mg CProblem CModel CProgram) : ∀ lev : Nat, Cal P w K mg base "value_of" lev ["term", "values"] (spD K (ct_val lev))
  | 0 => cal_no F fun S R ⟨n, v, m, t, _, _, _, _, h, _⟩ => by cases t <;> have := h.2 <;> omega
  | lev + 1 => by
    have c_value_of := c_value_of F T lev
    refine okC F sc_value_of (fun S R h => ?_) fun f cdv A outer s H E hr => ?_
    · obtain ⟨n, v, m, t, rfl, _⟩ := h; rfl
    have hu1 := hu1_of hr; have hu64 := hu64_of hr; have hu65 := hu65_of hr
    refine ⟨_, (by exact (pss_cons (by exact (ps_set (i := 2) sc_value_of.nd rfl (Or.inl rfl) (by exact (k_sub (K := K) rfl hu1 (by exact (pv 0)) (by exact pe_int) (fun _ _ => rfl) (fun _ _ => rfl)))))
      (by exact (pss_cons (by exact (ps_if (by exact (kt_eq (K := K) rfl hu64 (by exact (pv 2)) (by exact pe_str))) (by exact (pss_cons (by exact (ps_if (by exact (kt_nin (K := K) rfl hu65 (by exact (k_sub (K := K) rfl hu1 (by exact (pv 0)) (by exact pe_int) (fun _ _ => rfl) (fun _ _ => rfl))) (by exact (pv 1)) (by rfl))) (by exact (pss_one (by exact ps_never))) pss_nil))
      (by exact (pss_one (by exact (ps_ret (by exact (k_eq (K := K) rfl hu64 (by exact (k_sub (K := K) rfl hu1 (by exact (pv 1)) (by exact (k_sub (K := K) rfl hu1 (by exact (pv 0)) (by exact pe_int) (fun _ _ => rfl) (fun _ _ => rfl))) (fun _ _ => rfl) (fun _ _ => rfl))) (by exact pe_int))))))))) pss_nil))
      (by exact (pss_cons (by exact (ps_if (by exact (kt_in (K := K) rfl hu65 (by exact (pv 2)) (by exact (pe_tup (by exact (pa_cons (by exact pe_str) (by exact (pa_cons (by exact pe_str) pa_nil (by rfl))) (by rfl))))) (by rfl))) (by exact (pss_one (by exact (ps_ret (by exact (k_eq (K := K) rfl hu64 (by exact (pv 2)) (by exact pe_str))))))) pss_nil))
      (by exact (pss_cons (by exact (ps_setLc (i := 3) (own := [("part", 4)]) rfl sc_value_of.nd rfl rfl (sw_true rfl rfl rfl (by decide +kernel)) (by exact (k_sq (K := K) rfl (by exact (k_slice (K := K) rfl (by exact (pv 0)) (by exact (po_some (by exact pe_int))) po_none)))) (blkOk_by (own := [("part", 4)]) (by kernel_rfl)) (by intros; exact (by exact (pg_name (i := 4) sc_value_of.nd rfl (Or.inl rfl)))) (by intros; exact pts_one (by exact (k_tr (K := K) rfl (by exact (k_callB (kr_isi (K := K) rfl) (by rfl) T.n_isinstance (by decide +kernel) (by exact (pa_cons (by exact (pv 4)) (by exact (pa_cons (by exact (pe_bltn (v := .ty "tuple") (by rfl) T.n_tuple (by decide +kernel) rfl)) pa_nil (by rfl))) (by rfl))) (by decide) (by decide) (by rfl) (by rfl))) (fun _ => rfl)))) (by intros; exact (by exact (pe_cal c_value_of (hr.mono (by first | decide | omega)) (by rfl) (by exact (pa_cons (by exact (pv 4)) (by exact (pa_cons (by exact (pv 1)) pa_nil (by rfl))) (by rfl))))))))
      (by exact (pss_cons (by exact (ps_if (by exact (kt_eq (K := K) rfl hu64 (by exact (pv 2)) (by exact pe_str))) (by exact (pss_one (by exact (ps_ret (by exact (pe_not (by exact (k_sub (K := K) rfl hu1 (by exact (pv 3)) (by exact pe_int) (fun _ _ => rfl) (fun _ _ => rfl))))))))) pss_nil))
      (by exact (pss_cons (by exact (ps_if (by exact (kt_eq (K := K) rfl hu64 (by exact (pv 2)) (by exact pe_str))) (by exact (pss_one (by exact (ps_ret (by exact (k_callB (kr_all (K := K) rfl rfl) (by rfl) T.n_all (by decide +kernel) (by exact (pa_cons (by exact (pv 3)) pa_nil (by rfl))) (by decide) (by decide) (by rfl) (by rfl))))))) pss_nil))
      (by exact (pss_cons (by exact (ps_if (by exact (kt_eq (K := K) rfl hu64 (by exact (pv 2)) (by exact pe_str))) (by exact (pss_one (by exact (ps_ret (by exact (k_callB (kr_any (K := K) rfl rfl) (by rfl) T.n_any (by decide +kernel) (by exact (pa_cons (by exact (pv 3)) pa_nil (by rfl))) (by decide) (by decide) (by rfl) (by rfl))))))) pss_nil))
      (by exact (pss_cons (by exact (ps_if (by exact (kt_eq (K := K) rfl hu64 (by exact (pv 2)) (by exact pe_str))) (by exact (pss_one (by exact (ps_ret (by exact (pe_or (by exact (pe_not (by exact (k_sub (K := K) rfl hu1 (by exact (pv 3)) (by exact pe_int) (fun _ _ => rfl) (fun _ _ => rfl))))) (pe_one (by exact (k_sub (K := K) rfl hu1 (by exact (pv 3)) (by exact pe_int) (fun _ _ => rfl) (fun _ _ => rfl)))))))))) pss_nil))
      (by exact (pss_cons (by exact (ps_if (by exact (kt_eq (K := K) rfl hu64 (by exact (pv 2)) (by exact pe_str))) (by exact (pss_one (by exact (ps_ret (by exact (k_eq (K := K) rfl hu64 (by exact (k_sub (K := K) rfl hu1 (by exact (pv 3)) (by exact pe_int) (fun _ _ => rfl) (fun _ _ => rfl))) (by exact (k_sub (K := K) rfl hu1 (by exact (pv 3)) (by exact pe_int) (fun _ _ => rfl) (fun _ _ => rfl))))))))) pss_nil))
      (by exact (pss_cons (by exact (ps_if (by exact (kt_eq (K := K) rfl hu64 (by exact (pv 2)) (by exact pe_str))) (by exact (pss_one (by exact (ps_ret (by exact (k_ne (K := K) rfl hu64 (by exact (k_sub (K := K) rfl hu1 (by exact (pv 3)) (by exact pe_int) (fun _ _ => rfl) (fun _ _ => rfl))) (by exact (k_sub (K := K) rfl hu1 (by exact (pv 3)) (by exact pe_int) (fun _ _ => rfl) (fun _ _ => rfl))))))))) pss_nil))
      (by exact (pss_cons (by exact (ps_set (i := 5) sc_value_of.nd rfl (Or.inl rfl) (by exact (k_callB (kr_len (K := K) rfl) (by rfl) T.n_len (by decide +kernel) (by exact (pa_cons (by exact (pe_lc (own := [("own", 6)]) rfl sc_value_of.nd (by exact (k_sq (K := K) rfl (by exact (pv 3)))) (blkOk_by (own := [("own", 6)]) (by kernel_rfl)) (by intros; exact (by exact (pg_name (i := 6) sc_value_of.nd rfl (Or.inl rfl)))) (by intros; exact pts_one (by exact (k_tr (K := K) rfl (by exact (pv 6)) (fun _ => rfl)))) (by intros; exact (by exact (pv 6))) (by intro _; rfl))) pa_nil (by rfl))) (by decide) (by decide) (by rfl) (by rfl)))))
      (by exact (pss_one (by exact (ps_ret (by exact (pe_ifExp (by exact (kt_eq (K := K) rfl hu64 (by exact (pv 2)) (by exact pe_str))) (by exact (pe_cmpR op_ge (by exact (pv 5)) (by exact (k_sub (K := K) rfl hu1 (by exact (pv 0)) (by exact pe_int) (fun _ _ => rfl) (fun _ _ => rfl))) (nomark _))) (by exact (pe_cmpR op_le (by exact (pv 5)) (by exact (k_sub (K := K) rfl hu1 (by exact (pv 0)) (by exact pe_int) (fun _ _ => rfl) (fun _ _ => rfl))) (nomark _))))))))))))))))))))))))))))))), fun S R h => ?_⟩
    clear hu1 hu64 hu65 hr F T
    obtain ⟨n, v, m, t, rfl, hm, hv, hn, ht, hR⟩ := h
    refine ⟨[], by decide, fun i hi => (by cases hi), ?_⟩
    refine st_imp (show slot0 _ [.d t.d, m] = [M.d t.d, m, .no, .no, .no, .no, .no] from rfl) ?_
    have hl := hv.len
    have lk := Tq.look hv t ht
    generalize t.d = d at lk ⊢
    generalize t.val v = bb at lk hR
    rcases lk with ⟨i, rfl, hi, rfl⟩ | ⟨i, rfl, hi, hlev, rfl⟩ | ⟨c, rfl, hc, hcl, hlev, rfl⟩ | ⟨rfl, rfl⟩
    · -- a name
      have tl := told_at hl hn hi.1 hi.2
      unfold nameT
      refine st_seq (st_setP (d := .str "name") (by decide) (evp_ix (x := .tup [.str "name", .str (nmI i)]) (y := .int 0) (by walk_at "ev") (by walk_at "ev") (v_ixt rfl)) ?u1)
      case u1 =>
      show StN K [] _ [M.d (.tup [.str "name", .str (nmI i)]), m, .d (.str "name"), .no, .no, .no, .no] _
      refine' st_seq (st_ifP (b := decide (("name" : PySem.Str) = "name")) ?u2 (fun _ => ?u3) fun z => absurd (of_decide_eq_false z) (by simp))
      case u2 =>
        refine' tpp_test ?u4
        case u4 => walk_at "ev"
      case u3 =>
      refine' st_seq (st_ifP (b := !(lkD (toldK n) (v.map D.int) (Sum.inr (nmI i))).isSome) ?u5 (fun z => ?u6) fun _ => st_nil ?u7)
      case u5 =>
        refine' tpp_test (evp_dnins ?u8 ?u9)
        case u8 => walk_at "ev"
        case u9 => walk_at "ev"
      case u6 => rw [tl] at z; cases z
      case u7 =>
      refine' st_retP (evp_op (x := .int (v.getD (i.natAbs - 1) 0)) (y := .int 1) (EvP.b (evp_dgets (s := nmI i) ?v1 ?v2 tl)) (by walk_at "ev") v_eqi) ⟨le_rt rfl, hR⟩
      case v1 => walk_at "ev"
      case v2 => walk_at "ev"
    · -- not a name
      refine st_seq (st_setP (d := .str "not") (by decide) (evp_ix (x := .tup [.str "not", nameT i]) (y := .int 0) (by walk_at "ev") (by walk_at "ev") (v_ixt rfl)) ?u1)
      case u1 =>
      show StN K [] _ [M.d (.tup [.str "not", nameT i]), m, .d (.str "not"), .no, .no, .no, .no] _
      refine' st_seq (st_ifP (b := decide (("not" : PySem.Str) = "name")) ?u2 (fun z => absurd (of_decide_eq_true z) (by decide)) fun _ => st_nil ?u3)
      case u2 =>
        refine' tpp_test ?u4
        case u4 => walk_at "ev"
      case u3 =>
      refine' st_seq (st_ifP (b := decide (("not" : PySem.Str) ∈ (["true", "false"] : List PySem.Str))) ?u5 (fun z => absurd (of_decide_eq_true z) (by decide)) fun _ => st_nil ?u6)
      case u5 => exact tpp_test (evp_in (y := .tup ((["true", "false"] : List PySem.Str).map D.str)) (by walk_at "ev") (EvP.b (evp_tup (app_cons evp_str (app_cons evp_str app_nil)) (le_rt rfl))) v_in_strt)
      case u6 =>
      refine' st_seq (st_setF (d := .lst [.bl (decide (v.getD (i.natAbs - 1) 0 = 1))]) (by decide) (evf_lc (xs := [nameT i]) (f := fun d => d) (r := fun _ => .bl (decide (v.getD (i.natAbs - 1) 0 = 1))) (p := fun _ => true) ?w1 (le_rt rfl) ?w2) ?w3)
      case w1 => exact WkP.b (wkp_tup (EvP.is (d := .tup (([.str "not", nameT i].drop 1).map fun d => d)) (evp_slt1 (f := fun d => d) (xs := [.str "not", nameT i]) (by walk_at "ev")) rfl))
      case w2 =>
        intro d hd
        rw [List.mem_singleton] at hd
        subst hd
        refine ⟨_, gt_name, ?_, fun _ => ?_⟩
        · exact tpp_tr (d := .bl true) (EvP.b (evp_cb2 (x := nameT i) (by walk_at "ev") (by walk_at "ev") (v_isi (n := "tuple") rfl rfl))) rfl
        · exact evp_call (by walk_at "ar") rfl ⟨n, v, _, Tq.nm i, rfl, rd_toB (by walk_at "rd"), hv, hn, ⟨hi, hlev⟩, rfl⟩
      case w3 =>
      show StN K [] _ [M.d (.tup [.str "not", nameT i]), m, .d (.str "not"), .o (.lst [.bl (decide (v.getD (i.natAbs - 1) 0 = 1))]), .no, .no, .no] _
      refine' st_seq (st_ifP (b := decide (("not" : PySem.Str) = "not")) ?x1 (fun _ => ?x2) fun z => absurd (of_decide_eq_false z) (by simp))
      case x1 =>
        refine' tpp_test ?x3
        case x3 => walk_at "ev"
      case x2 =>
      refine' st_retP (evp_notV (evp_ix (x := .lst [.bl (decide (v.getD (i.natAbs - 1) 0 = 1))]) (y := .int 0) ?x4 (by walk_at "ev") (v_ixl rfl))) ⟨le_rt rfl, hR⟩
      case x4 => walk_at "ev"
    · -- or
      refine st_seq (st_setP (d := .str "or") (by decide) (evp_ix (x := .tup (.str "or" :: c.map litT)) (y := .int 0) (by walk_at "ev") (by walk_at "ev") (v_ixt (atI_nat (j := 0) rfl))) ?u1)
      case u1 =>
      show StN K [] _ [M.d (.tup (.str "or" :: c.map litT)), m, .d (.str "or"), .no, .no, .no, .no] _
      refine' st_seq (st_ifP (b := decide (("or" : PySem.Str) = "name")) ?u2 (fun z => absurd (of_decide_eq_true z) (by decide)) fun _ => st_nil ?u3)
      case u2 =>
        refine' tpp_test ?u4
        case u4 => walk_at "ev"
      case u3 =>
      refine' st_seq (st_ifP (b := decide (("or" : PySem.Str) ∈ (["true", "false"] : List PySem.Str))) ?u5 (fun z => absurd (of_decide_eq_true z) (by decide)) fun _ => st_nil ?u6)
      case u5 => exact tpp_test (evp_in (y := .tup ((["true", "false"] : List PySem.Str).map D.str)) (by walk_at "ev") (EvP.b (evp_tup (app_cons evp_str (app_cons evp_str app_nil)) (le_rt rfl))) v_in_strt)
      case u6 =>
      refine' st_seq (st_setF (d := .lst ((c.filter fun _ => true).map fun l => .bl (litB l v))) (by decide) (evf_lc (xs := c) (f := litT) (r := fun l => .bl (litB l v)) (p := fun _ => true) ?w1 (by omega) ?w2) ?w3)
      case w1 => exact WkP.b (wkp_tup (EvP.is (evp_slt1 (f := fun d => d) (xs := .str "or" :: c.map litT) (EvP.is (d := .tup (.str "or" :: c.map litT)) (by walk_at "ev") (by rw [List.map_id']))) (by rw [List.drop_one, List.tail_cons, List.map_id'])))
      case w2 =>
        intro l hl
        refine ⟨_, gt_name, ?_, fun _ => ?_⟩
        · refine tpp_tr (d := .bl true) (EvP.b (evp_cb2 (x := litT l) (by walk_at "ev") (by walk_at "ev") (v_isi (n := "tuple") ?_ rfl))) rfl
          unfold litT; by_cases q : 0 < l
          · rw [if_pos q]; rfl
          · rw [if_neg q]; rfl
        · exact evp_call (by walk_at "ar") rfl ⟨n, v, _, Tq.li l, rfl, rd_toB (by walk_at "rd"), hv, hn, ⟨hc l hl, hlev⟩, rfl⟩
      case w3 =>
      have e : (c.filter fun _ => true) = c := List.filter_eq_self.mpr fun _ _ => rfl
      rw [e]
      show StN K [] _ [M.d (.tup (.str "or" :: c.map litT)), m, .d (.str "or"), .o (.lst (c.map fun l => .bl (litB l v))), .no, .no, .no] _
      refine' st_seq (st_ifP (b := decide (("or" : PySem.Str) = "not")) ?x1 (fun z => absurd (of_decide_eq_true z) (by decide)) fun _ => st_nil ?x2)
      case x1 =>
        refine' tpp_test ?x3
        case x3 => walk_at "ev"
      case x2 =>
      refine' st_seq (st_ifP (b := decide (("or" : PySem.Str) = "and")) ?y1 (fun z => absurd (of_decide_eq_true z) (by decide)) fun _ => st_nil ?y2)
      case y1 =>
        refine' tpp_test ?y3
        case y3 => walk_at "ev"
      case y2 =>
      refine' st_seq (st_ifP (b := decide (("or" : PySem.Str) = "or")) ?z1 (fun _ => ?z2) fun z => absurd (of_decide_eq_false z) (by simp))
      case z1 =>
        refine' tpp_test ?z3
        case z3 => walk_at "ev"
      case z2 =>
      refine' st_retP (d := .bl (holdsB c v)) (evp_cb ?z4 v_any) ⟨le_rt rfl, hR⟩
      case z4 => walk_at "ev"
    · -- false
      refine st_seq (st_setP (d := .str "false") (by decide) (evp_ix (x := .tup [.str "false"]) (y := .int 0) (by walk_at "ev") (by walk_at "ev") (v_ixt rfl)) ?u1)
      case u1 =>
      show StN K [] _ [M.d (.tup [.str "false"]), m, .d (.str "false"), .no, .no, .no, .no] _
      refine' st_seq (st_ifP (b := decide (("false" : PySem.Str) = "name")) ?u2 (fun z => absurd (of_decide_eq_true z) (by decide)) fun _ => st_nil ?u3)
      case u2 =>
        refine' tpp_test ?u4
        case u4 => walk_at "ev"
      case u3 =>
      refine' st_seq (st_ifP (b := decide (("false" : PySem.Str) ∈ (["true", "false"] : List PySem.Str))) ?u5 (fun _ => ?u6) fun z => absurd (of_decide_eq_false z) (by simp))
      case u5 => exact tpp_test (evp_in (y := .tup ((["true", "false"] : List PySem.Str).map D.str)) (by walk_at "ev") (EvP.b (evp_tup (app_cons evp_str (app_cons evp_str app_nil)) (le_rt rfl))) v_in_strt)
      case u6 =>
      refine' st_retP (d := .bl false) (EvP.is (d := .bl (decide (("false" : PySem.Str) = "true"))) ?u7 (by rw [decide_eq_false (by decide)])) ⟨le_rt rfl, hR⟩
      case u7 => walk_at "ev"
end
open PySem PySem.Spec L2 Evl PyProof.Rows Dl

section
variable {P : Program} {w : World} {K : PySem.W.Frag} {mg : PySem.Str → Option Value} {base : Heap} {CProblem CModel CProgram : Addr}
abbrev s_names_in : Stmt := top 30
theorem sc_names_in : FnScope ["term", "found", "left", "own", "part"] ["term"] (defScope s_names_in) := ⟨rfl, rfl, rfl, by decide +kernel, rfl, by decide +kernel, by decide +kernel⟩
abbrev natI (c : List Int) : List Int := c.map fun l => ((l.natAbs : Nat) : Int)
def namesD (c : List Int) : D := .lst (((natI c).map nmI).map D.str)
def ct_names : Ct := fun S R => ∃ c : List Int, S = [.d (termD c)] ∧ ClOk 5 c ∧ R (namesD c) [.no]
theorem c_names_in (F : FunAt K mg "names_in" s_names_in ["term"]) (T : Txt K mg CProblem CModel CProgram)
    : Cal P w K mg base "names_in" 1 ["term"] (spD K (ct_names)) := by
  refine okC F sc_names_in (fun S R h => ?_) fun f cdv A outer s H E hr => ?_
  · obtain ⟨c, rfl, ok, hR⟩ := h; rfl
  have hu1 := hu1_of hr; have hu64 := hu64_of hr; have hu65 := hu65_of hr
  refine ⟨_, (by exact (pss_cons (by exact (ps_set (i := 1) sc_names_in.nd rfl (Or.inl rfl) (by exact pe_dnewK)))
      (by exact (pss_cons (by exact (ps_set (i := 2) sc_names_in.nd rfl (Or.inl rfl) (by exact (pe_lst (by exact (pa_cons (by exact (pv 0)) pa_nil (by rfl)))))))
      (by exact (pss_cons (by exact (ps_while PassesOwn.never (by exact (k_tr (K := K) rfl (by exact (pv 2)) (fun _ => rfl))) (by exact (pss_cons (by exact (ps_set (i := 3) sc_names_in.nd rfl (Or.inl rfl) (by exact (pe_bm0 PySem.F.plainAttrs_list PySem.F.slot_list_pop PySem.F.type_list_pop mt_pop (by exact (pv 2))))))
      (by exact (pss_one (by exact (ps_if (by exact (kt_eq (K := K) rfl hu64 (by exact (k_sub (K := K) rfl hu1 (by exact (pv 3)) (by exact pe_int) (fun _ _ => rfl) (fun _ _ => rfl))) (by exact pe_str))) (by exact (pss_one (by exact (ps_dput hu1 (by exact (pv 1)) (by exact (k_sub (K := K) rfl hu1 (by exact (pv 3)) (by exact pe_int) (fun _ _ => rfl) (fun _ _ => rfl))) (by exact pe_bl) rfl)))) (by exact (pss_one (by exact (ps_expr (by exact (pe_bm PySem.F.plainAttrs_list PySem.F.slot_list_extend PySem.F.type_list_extend mt_extend (by exact (pv 2)) (by exact (pa_cons (by exact (pe_lc (own := [("part", 4)]) rfl sc_names_in.nd (by exact (k_sq (K := K) rfl (by exact (k_slice (K := K) rfl (by exact (pv 3)) (by exact (po_some (by exact pe_int))) po_none)))) (blkOk_by (own := [("part", 4)]) (by kernel_rfl)) (by intros; exact (by exact (pg_name (i := 4) sc_names_in.nd rfl (Or.inl rfl)))) (by intros; exact pts_one (by exact (k_tr (K := K) rfl (by exact (k_callB (kr_isi (K := K) rfl) (by rfl) T.n_isinstance (by decide +kernel) (by exact (pa_cons (by exact (pv 4)) (by exact (pa_cons (by exact (pe_bltn (v := .ty "tuple") (by rfl) T.n_tuple (by decide +kernel) rfl)) pa_nil (by rfl))) (by rfl))) (by decide) (by decide) (by rfl) (by rfl))) (fun _ => rfl)))) (by intros; exact (by exact (pv 4))) (by intro _; rfl))) pa_nil (by rfl)))))))))))))))))
      (by exact (pss_one (by exact (ps_ret (by exact (k_callB (kr_sortDS rfl) (by rfl) T.n_sorted (by decide +kernel) (by exact (pa_cons (by exact (pv 1)) pa_nil (by rfl))) (by decide) (by decide) (by rfl) (by rfl))))))))))))), fun S R h => ?_⟩
  clear hu1 hu64 hu65 hr F T
  obtain ⟨c, rfl, ok, hR⟩ := h
  refine ⟨[], by decide, fun i hi => (by cases hi), ?_⟩
  refine st_imp (show slot0 _ [M.d (termD c)] = [M.d (termD c), .no, .no, .no, .no] from rfl) ?_
  have nat5 : ∀ i ∈ natI c, i ∈ fives := fun i hi => by
    obtain ⟨l, hl, rfl⟩ := List.mem_map.mp hi
    have := ok.lit l hl
    unfold LitOk at this
    exact five (by omega)
  have asc : (natI c).Pairwise (· < ·) := List.pairwise_map.mpr (ok.asc.imp fun h => by omega)
  have nd : (natI c).reverse.Nodup := (List.reverse_perm _).nodup_iff.mpr (asc.imp fun h => by omega)
  have cl := ok.len
  refine st_seq (st_setF (d := .dk [] []) (by decide) evf_dnewK ?u1)
  case u1 =>
  refine st_seq (st_setF (d := .lst [termD c]) (by decide) (evf_lst (app_cons (by walk_at "ev") app_nil) (le_rt rfl)) ?u2)
  case u2 =>
  refine' st_seq (st_while (fun m S' => ∃ (xs : List Tq) (acc : List Int) (a3 a4 : M), m = Tq.wts xs ∧ S' = [M.d (termD c), .o (.dk (acc.map kN) (acc.map fun _ => .bl true)), .o (.lst (xs.map Tq.d)), a3, a4] ∧ acc ++ Tq.flats xs = (natI c).reverse ∧ (∀ x ∈ xs, x.okv 5 3) ∧ Tq.wts xs ≤ 11) (m0 := Tq.wts [Tq.or_ c]) ⟨[Tq.or_ c], [], .no, .no, rfl, rfl, by simp [Tq.flats, Tq.flat], fun x hx => by rw [List.mem_singleton] at hx; subst hx; exact ⟨ok.lit, cl, Nat.le_refl _⟩, by show 1 + 2 * c.length + 0 ≤ 11; omega⟩ ?u3)
  case u3 =>
  rintro m S' ⟨xs, acc, a3, a4, rfl, rfl, hac, hok, hwt⟩
  refine TpP.n (b := !(xs.map Tq.d).isEmpty) (tpp_tr (d := .lst (xs.map Tq.d)) (by walk_at "ev") rfl) ⟨fun hb => ?u4, fun hb => ?u5⟩
  case u5 =>
    have e : xs = [] := by cases xs with
      | nil => rfl
      | cons x xs => cases hb
    subst e
    have e2 : acc = (natI c).reverse := by simpa [Tq.flats] using hac
    subst e2
    refine' st_ret (EvO.n (evo_sortDSs (ks := (natI c).reverse.map nmI) (xs := (natI c).reverse.map fun _ => .bl true) (EvB.is (d := .dk ((natI c).reverse.map kN) ((natI c).reverse.map fun _ => .bl true)) ?v1 (by rw [List.map_map]; rfl)) ?v2 fun ys hp hs => ?v3))
    case v1 => walk_at "ev"
    case v2 => rw [List.length_map, List.length_reverse, List.length_map]; omega
    case v3 =>
      have e3 := sort_nm asc nat5 (hp.trans ((List.reverse_perm (natI c)).map nmI)) hs
      subst e3
      exact ⟨le_rt rfl, hR⟩
  case u4 =>
    obtain ⟨ys, t, rfl⟩ : ∃ ys t, xs = ys ++ [t] := by
      rcases List.eq_nil_or_concat xs with rfl | ⟨ys, t, e⟩
      · cases hb
      · exact ⟨ys, t, by rw [e, List.concat_eq_append]⟩
    have okt := hok t (by simp)
    have oky : ∀ x ∈ ys, x.okv 5 3 := fun x hx => hok x (List.mem_append_left _ hx)
    rw [Tq.flats_add] at hac
    rw [List.map_append, List.map_singleton]
    refine st_seq (st_set (by decide) (evn_pop rfl ?w1))
    case w1 =>
    have lk := Tq.look2 t okt
    have hw := Tq.wts_add ys t
    have ylen := Tq.len_wts ys
    generalize Tq.wts (ys ++ [t]) = W at hw hwt ⊢
    generalize t.d = d at lk ⊢
    generalize t.flat = fl at lk hac
    generalize t.wt = wt at lk hw
    rcases lk with ⟨i, rfl, hi, rfl, h1⟩ | ⟨i, rfl, hi, rfl, h1⟩ | ⟨c', rfl, hc, hcl, rfl, rfl⟩ | ⟨rfl, rfl, h1⟩
    · -- a name
      have allA : ∀ j ∈ acc, j.natAbs ≤ 5 := fun j hj => five_ten (nat5 j (List.mem_reverse.mp (hac ▸ List.mem_append_left _ hj)))
      have notA : i ∉ acc := fun hj => by
        rw [← hac] at nd
        exact (List.nodup_append.mp nd).2.2 i hj i (by simp) rfl
      have no := kN_no allA (show i.natAbs ≤ 5 by omega) notA
      have accl : acc.length ≤ 5 := by
        have := congrArg List.length hac
        rw [List.length_append, List.length_reverse, List.length_map] at this
        omega
      show StN K [] _ [M.d (termD c), .o (.dk (acc.map kN) (acc.map fun _ => .bl true)), .o (.lst (ys.map Tq.d)), .d (nameT i), a4] _
      unfold nameT
      refine' st_ifP (b := decide (("name" : PySem.Str) = "name")) ?x1 (fun _ => ?x2) fun z => absurd (of_decide_eq_false z) (by simp)
      case x1 => exact tpp_test (evp_op (x := .str "name") (y := .str "name") (EvP.b (evp_ix (x := .tup [.str "name", .str (nmI i)]) (y := .int 0) (by walk_at "ev") (by walk_at "ev") (v_ixt rfl))) (by walk_at "ev") (v_eqs (by decide +kernel) (by decide +kernel)))
      case x2 =>
        refine st_dput ⟨_, _, rfl⟩ (evp_bl.n ⟨⟨_, _, rfl⟩, EvP.n (d := .str (nmI i)) (evp_ix (x := .tup [.str "name", .str (nmI i)]) (y := .int 1) (by walk_at "ev") (by walk_at "ev") (v_ixt rfl)) ⟨kN i, _, _, rfl, rfl, ?y1, ?y2⟩⟩)
        case y1 => rw [List.length_map]; omega
        case y2 =>
          refine ⟨_, ?z0, ys, acc ++ [i], .d (nameT i), a4, rfl, ?z1, by rw [List.append_assoc]; exact hac, oky, by omega⟩
          case z0 => omega
          case z1 =>
            rw [pK_new no, pX_new no, List.map_append, List.map_append]
            rfl
    · -- not a name
      show StN K [] _ [M.d (termD c), .o (.dk (acc.map kN) (acc.map fun _ => .bl true)), .o (.lst (ys.map Tq.d)), .d (.tup [.str "not", nameT i]), a4] _
      refine' st_ifP (b := decide (("not" : PySem.Str) = "name")) ?x1 (fun z => absurd (of_decide_eq_true z) (by decide)) fun _ => ?x2
      case x1 => exact tpp_test (evp_op (x := .str "not") (y := .str "name") (EvP.b (evp_ix (x := .tup [.str "not", nameT i]) (y := .int 0) (by walk_at "ev") (by walk_at "ev") (v_ixt rfl))) (by walk_at "ev") (v_eqs (by decide +kernel) (by decide +kernel)))
      case x2 =>
        refine st_expr (evn_extend ⟨_, rfl⟩ (EvP.n (d := .lst [nameT i]) (EvF.p (evf_lc (xs := [nameT i]) (f := fun d => d) (r := fun d => d) (p := fun _ => true) ?w1 (le_rt rfl) ?w2)) ⟨_, _, rfl, rfl, ?w3, ?w4⟩))
        case w1 => exact WkP.b (wkp_tup (EvP.is (d := .tup (([.str "not", nameT i].drop 1).map fun d => d)) (evp_slt1 (f := fun d => d) (xs := [.str "not", nameT i]) (by walk_at "ev")) rfl))
        case w2 =>
          intro d hd
          rw [List.mem_singleton] at hd
          subst hd
          refine ⟨_, gt_name, ?_, fun _ => ?_⟩
          · exact tpp_tr (d := .bl true) (EvP.b (evp_cb2 (x := nameT i) (by walk_at "ev") (by walk_at "ev") (v_isi (n := "tuple") rfl rfl))) rfl
          · walk_at "ev"
        case w3 =>
          rw [List.length_map, List.length_singleton]
          omega
        case w4 =>
          refine ⟨Tq.wts (ys ++ [.nm i]), ?_, ys ++ [.nm i], acc, .d (.tup [.str "not", nameT i]), a4, rfl, ?_, by rw [Tq.flats_add]; exact hac, fun x hx => ?_, by rw [Tq.wts_add]; show Tq.wts ys + 1 ≤ 11; omega⟩
          · rw [Tq.wts_add]; show Tq.wts ys + 1 < W; omega
          · rw [List.map_append]; rfl
          · rcases List.mem_append.mp hx with hx | hx
            · exact oky x hx
            · rw [List.mem_singleton] at hx; subst hx; exact ⟨hi, by decide⟩
    · -- or
      show StN K [] _ [M.d (termD c), .o (.dk (acc.map kN) (acc.map fun _ => .bl true)), .o (.lst (ys.map Tq.d)), .d (.tup (.str "or" :: c'.map litT)), a4] _
      refine' st_ifP (b := decide (("or" : PySem.Str) = "name")) ?x1 (fun z => absurd (of_decide_eq_true z) (by decide)) fun _ => ?x2
      case x1 => exact tpp_test (evp_op (x := .str "or") (y := .str "name") (EvP.b (evp_ix (x := .tup (.str "or" :: c'.map litT)) (y := .int 0) (by walk_at "ev") (by walk_at "ev") (v_ixt (atI_nat (j := 0) rfl)))) (by walk_at "ev") (v_eqs (by decide +kernel) (by decide +kernel)))
      case x2 =>
        refine st_expr (evn_extend ⟨_, rfl⟩ (EvP.n (d := .lst ((c'.filter fun _ => true).map litT)) (EvF.p (evf_lc (xs := c') (f := litT) (r := litT) (p := fun _ => true) ?w1 (by omega) ?w2)) ⟨_, _, rfl, rfl, ?w3, ?w4⟩))
        case w1 => exact WkP.b (wkp_tup (EvP.is (evp_slt1 (f := fun d => d) (xs := .str "or" :: c'.map litT) (EvP.is (d := .tup (.str "or" :: c'.map litT)) (by walk_at "ev") (by rw [List.map_id']))) (by rw [List.drop_one, List.tail_cons, List.map_id'])))
        case w2 =>
          intro l hl
          refine ⟨_, gt_name, ?_, fun _ => ?_⟩
          · refine tpp_tr (d := .bl true) (EvP.b (evp_cb2 (x := litT l) (by walk_at "ev") (by walk_at "ev") (v_isi (n := "tuple") ?_ rfl))) rfl
            unfold litT; by_cases q : 0 < l
            · rw [if_pos q]; rfl
            · rw [if_neg q]; rfl
          · walk_at "ev"
        case w3 =>
          have e : (c'.filter fun _ => true) = c' := List.filter_eq_self.mpr fun _ _ => rfl
          rw [e, List.length_map, List.length_map]
          omega
        case w4 =>
          have e : (c'.filter fun _ => true) = c' := List.filter_eq_self.mpr fun _ _ => rfl
          rw [e]
          refine ⟨Tq.wts (ys ++ c'.map .li), ?_, ys ++ c'.map .li, acc, .d (.tup (.str "or" :: c'.map litT)), a4, rfl, ?_, by rw [Tq.flats_l]; exact hac, fun x hx => ?_, by rw [Tq.wts_l]; omega⟩
          · rw [Tq.wts_l]; omega
          · rw [List.map_append, List.map_map]; rfl
          · rcases List.mem_append.mp hx with hx | hx
            · exact oky x hx
            · obtain ⟨l, hl, rfl⟩ := List.mem_map.mp hx
              exact ⟨hc l hl, by decide⟩
    · -- false
      show StN K [] _ [M.d (termD c), .o (.dk (acc.map kN) (acc.map fun _ => .bl true)), .o (.lst (ys.map Tq.d)), .d (.tup [.str "false"]), a4] _
      refine' st_ifP (b := decide (("false" : PySem.Str) = "name")) ?x1 (fun z => absurd (of_decide_eq_true z) (by decide)) fun _ => ?x2
      case x1 => exact tpp_test (evp_op (x := .str "false") (y := .str "name") (EvP.b (evp_ix (x := .tup [.str "false"]) (y := .int 0) (by walk_at "ev") (by walk_at "ev") (v_ixt rfl))) (by walk_at "ev") (v_eqs (by decide +kernel) (by decide +kernel)))
      case x2 =>
        refine st_expr (evn_extend ⟨_, rfl⟩ (EvP.n (d := .lst []) (EvF.p (evf_lc (xs := ([] : List D)) (f := fun d => d) (r := fun d => d) (p := fun _ => true) ?w1 (le_rt rfl) (fun d hd => by cases hd))) ⟨_, _, rfl, rfl, ?w3, ?w4⟩))
        case w1 => exact WkP.b (wkp_tup (EvP.is (d := .tup (([.str "false"].drop 1).map fun d => d)) (evp_slt1 (f := fun d => d) (xs := [.str "false"]) (by walk_at "ev")) rfl))
        case w3 =>
          rw [List.length_map, List.length_nil]
          omega
        case w4 =>
          refine ⟨Tq.wts ys, by omega, ys, acc, .d (.tup [.str "false"]), a4, rfl, ?_, hac, oky, by omega⟩
          rw [List.append_nil]
          rfl
end
open PySem PySem.Spec L2 Evl PyProof.Rows Dl

section
variable {P : Program} {w : World} {K : PySem.W.Frag} {mg : PySem.Str → Option Value} {base : Heap} {CProblem CModel CProgram : Addr}
abbrev s_Model_init : Stmt := inClass (top 36) 0
theorem sc_Model_init : FnScope ["self", "names", "rules", "costs", "cost", "name", "term"] ["self", "names", "rules", "costs"] (defScope s_Model_init) := ⟨rfl, rfl, rfl, by decide +kernel, rfl, by decide +kernel, by decide +kernel⟩
def ct_Model (C : Addr) : Ct := fun S R => ∃ (p : Pb) (m1 m2 m3 : M), S = [.o (.ins C [] []), m1, m2, m3] ∧ m1.rd (.lst ((nmL p.count).map D.str)) ∧ m2.rd (.lst (p.hard.map termD)) ∧ m3.rd (.lst (p.soft.map costD)) ∧ PbOk p ∧ p.count ≤ 5 ∧ R .non [.o (modD C p), .no, .no, .no]
theorem c_Model (F : InitAt K mg "Model" CModel "__init__" "Model.__init__" s_Model_init ["self", "names", "rules", "costs"]) (T : Txt K mg CProblem CModel CProgram)
    (c_is_name : Cal P w K mg base "is_name" 1 ["word"] (spD K (ct_isName)))
    (c_names_in : Cal P w K mg base "names_in" 1 ["term"] (spD K (ct_names)))
    : ICal P w K mg base "Model" CModel 3 ["self", "names", "rules", "costs"] (spD K (ct_Model CModel)) := by
  refine okI F sc_Model_init (fun S R h => ?_) fun f cdv A outer s H E hr => ?_
  · obtain ⟨p, m1, m2, m3, rfl, hm1, hm2, hm3, ok, hn, hR⟩ := h; rfl
  have hu1 := hu1_of hr; have hu64 := hu64_of hr; have hu65 := hu65_of hr
  refine ⟨_, (by exact (pss_cons (by exact (ps_fld (by exact (pv 0)) (by exact (k_tupleOf (K := K) rfl (by rfl) T.n_tuple (by exact (pv 1)) (by rfl))) rfl))
      (by exact (pss_cons (by exact (ps_fld (by exact (pv 0)) (by exact (k_tupleOf (K := K) rfl (by rfl) T.n_tuple (by exact (pv 2)) (by rfl))) rfl))
      (by exact (pss_cons (by exact (ps_fld (by exact (pv 0)) (by exact (k_tupleOf (K := K) rfl (by rfl) T.n_tuple (by exact (pe_lc (own := [("cost", 4)]) rfl sc_Model_init.nd (by exact (k_sq (K := K) rfl (by exact (pv 3)))) (blkOk_by (own := [("cost", 4)]) (by kernel_rfl)) (by intros; exact (by exact (pg_name (i := 4) sc_Model_init.nd rfl (Or.inl rfl)))) (by intros; exact pts_nil) (by intros; exact (by exact (k_tupleOf (K := K) rfl (by rfl) T.n_tuple (by exact (pv 4)) (by rfl)))) (by intro _; rfl))) (by rfl))) rfl))
      (by exact (pss_cons (by exact (ps_if (by exact (PW.pt (by exact (by exact (pw_or (by exact (pt_cmpR op_gt (by exact (k_callB (kr_len (K := K) rfl) (by rfl) T.n_len (by decide +kernel) (by exact (pa_cons (by exact (k_fld (K := K) rfl (by exact (pv 0)) rfl)) pa_nil (by rfl))) (by decide) (by decide) (by rfl) (by rfl))) (by exact (pe_globI rfl T.g_MOST_NAMES)) (nomark _))) (by exact (pw_or1 (by exact (kt_ne (K := K) rfl hu64 (by exact (k_callB (kr_lenK (P := P) (w := w) rfl rfl) (by rfl) T.n_len (by decide +kernel) (by exact (pa_cons (by exact (k_callTy (kr_setK (K := K) (P := P) (w := w) rfl rfl rfl rfl) (by rfl) T.n_set (by decide +kernel) (by exact (pa_cons (by exact (k_fld (K := K) rfl (by exact (pv 0)) rfl)) pa_nil (by rfl))) (by decide) (by decide) (by rfl) (by rfl))) pa_nil (by rfl))) (by decide) (by decide) (by rfl) (by rfl))) (by exact (k_callB (kr_len (K := K) rfl) (by rfl) T.n_len (by decide +kernel) (by exact (pa_cons (by exact (k_fld (K := K) rfl (by exact (pv 0)) rfl)) pa_nil (by rfl))) (by decide) (by decide) (by rfl) (by rfl)))))))))))) (by exact (pss_one (by exact ps_never))) pss_nil))
      (by exact (pss_cons (by exact (ps_if (by exact (pt_not (by exact (k_tr (K := K) rfl (by exact (k_callB (kr_all (K := K) rfl rfl) (by rfl) T.n_all (by decide +kernel) (by exact (pa_cons (by exact (pe_lc (own := [("name", 5)]) rfl sc_Model_init.nd (by exact (k_sq (K := K) rfl (by exact (k_fld (K := K) rfl (by exact (pv 0)) rfl)))) (blkOk_by (own := [("name", 5)]) (by kernel_rfl)) (by intros; exact (by exact (pg_name (i := 5) sc_Model_init.nd rfl (Or.inl rfl)))) (by intros; exact pts_nil) (by intros; exact (by exact (pe_cal c_is_name (hr.mono (by first | decide | omega)) (by rfl) (by exact (pa_cons (by exact (pv 5)) pa_nil (by rfl)))))) (by intro _; rfl))) pa_nil (by rfl))) (by decide) (by decide) (by rfl) (by rfl))) (fun _ => rfl))))) (by exact (pss_one (by exact ps_never))) pss_nil))
      (by exact (pss_cons (by exact (ps_for PassesOwn.never rfl (by exact (k_sq (K := K) rfl (by exact (k_add (K := K) rfl (by exact (k_callTy (kr_list (K := K) rfl) (by rfl) T.n_list (by decide +kernel) (by exact (pa_cons (by exact (k_fld (K := K) rfl (by exact (pv 0)) rfl)) pa_nil (by rfl))) (by decide) (by decide) (by rfl) (by rfl))) (by exact (pe_lc (own := [("cost", 4)]) rfl sc_Model_init.nd (by exact (k_sq (K := K) rfl (by exact (k_fld (K := K) rfl (by exact (pv 0)) rfl)))) (blkOk_by (own := [("cost", 4)]) (by kernel_rfl)) (by intros; exact (by exact (pg_name (i := 4) sc_Model_init.nd rfl (Or.inl rfl)))) (by intros; exact pts_nil) (by intros; exact (by exact (k_sub (K := K) rfl hu1 (by exact (pv 4)) (by exact pe_int) (fun _ _ => rfl) (fun _ _ => rfl)))) (by intro _; rfl))))))) (by exact (pg_name (i := 6) sc_Model_init.nd rfl (Or.inl rfl))) (by exact (pss_one (by exact (ps_if (by exact (pt_not (by exact (k_tr (K := K) rfl (by exact (k_callB (kr_all (K := K) rfl rfl) (by rfl) T.n_all (by decide +kernel) (by exact (pa_cons (by exact (pe_lc (own := [("name", 5)]) rfl sc_Model_init.nd (by exact (k_sq (K := K) rfl (by exact (pe_cal c_names_in (hr.mono (by first | decide | omega)) (by rfl) (by exact (pa_cons (by exact (pv 6)) pa_nil (by rfl))))))) (blkOk_by (own := [("name", 5)]) (by kernel_rfl)) (by intros; exact (by exact (pg_name (i := 5) sc_Model_init.nd rfl (Or.inl rfl)))) (by intros; exact pts_nil) (by intros; exact (by exact (k_in (K := K) rfl hu65 (by exact (pv 5)) (by exact (k_fld (K := K) rfl (by exact (pv 0)) rfl)) (by rfl)))) (by intro _; rfl))) pa_nil (by rfl))) (by decide) (by decide) (by rfl) (by rfl))) (fun _ => rfl))))) (by exact (pss_one (by exact ps_never))) pss_nil))))))
      (by exact (pss_one (by exact (ps_if (by exact (pt_not (by exact (k_tr (K := K) rfl (by exact (k_callB (kr_all (K := K) rfl rfl) (by rfl) T.n_all (by decide +kernel) (by exact (pa_cons (by exact (pe_lc (own := [("cost", 4)]) rfl sc_Model_init.nd (by exact (k_sq (K := K) rfl (by exact (k_fld (K := K) rfl (by exact (pv 0)) rfl)))) (blkOk_by (own := [("cost", 4)]) (by kernel_rfl)) (by intros; exact (by exact (pg_name (i := 4) sc_Model_init.nd rfl (Or.inl rfl)))) (by intros; exact pts_nil) (by intros; exact (by exact (pe_chain op_le op_le (by exact pe_int) (by exact (k_sub (K := K) rfl hu1 (by exact (pv 4)) (by exact pe_int) (fun _ _ => rfl) (fun _ _ => rfl))) (by exact (pe_globI rfl T.g_MOST_WEIGHT))))) (by intro _; rfl))) pa_nil (by rfl))) (by decide) (by decide) (by rfl) (by rfl))) (fun _ => rfl))))) (by exact (pss_one (by exact ps_never))) pss_nil)))))))))))))))), fun S R h => ?_⟩
  have tcl_Model := T.cl_Model; have tf_Model_names := T.f_Model_names; have tf_Model_rules := T.f_Model_rules; have tf_Model_costs := T.f_Model_costs
  have tcl_Program := T.cl_Program; have tf_Program_costs := T.f_Program_costs
  clear hu1 hu64 hu65 hr F T
  obtain ⟨p, m1, m2, m3, rfl, hm1, hm2, hm3, ok, hn, hR⟩ := h
  refine ⟨[0], by decide, fun i hi m' hm' => (by simp at hi; subst hi; cases hm'; rfl), ?_⟩
  refine st_imp (show slot0 _ [M.o (.ins CModel [] []), m1, m2, m3] = [M.o (.ins CModel [] []), m1, m2, m3, .no, .no, .no] from rfl) ?_
  have hl := ok.hl; have sl := ok.sl
  have hl2 : p.hard.length ≤ 50000 := by omega
  have sl2 : p.soft.length ≤ 50000 := by omega
  have clH : ∀ c ∈ p.hard, ClOk 5 c := fun c hc => (ok.hard c hc).mono hn
  have clS : ∀ s ∈ p.soft, ClOk 5 s.1 := fun s hs => (ok.soft s hs).1.mono hn
  have nl := nmL_len p.count
  refine st_seq (st_fld tcl_Model tf_Model_names (EvP.n (d := .tup ((nmL p.count).map D.str)) (by walk_at "ev") ⟨_, _, rfl, by decide, ?_⟩))
  refine st_seq (st_fld tcl_Model tf_Model_rules (EvP.n (d := .tup (p.hard.map termD)) (by walk_at "ev") ⟨_, _, rfl, by decide, ?_⟩))
  refine st_seq (st_fld tcl_Model tf_Model_costs (EvP.n (d := .tup (p.soft.map costD)) ?u1 ⟨_, _, rfl, by decide, ?_⟩))
  case u1 =>
    refine' evp_then (EvP.b (EvF.p (evf_lcA (xs := p.soft) (f := costD) (r := costD) ?u2 sl2 ?u3))) v_tupl
    case u2 => walk_at "wk"
    case u3 =>
      intro s hs
      refine ⟨_, gt_name, ?_⟩
      unfold costD
      walk_at "ev"
  show StN K [0] _ [M.o (modD CModel p), m1, m2, m3, .no, .no, .no] _
  have fld1 : ∀ {S : List M} {te : TE}, EvB K te S (modD CModel p) → EvP K (tFld K te "names") S (.tup ((nmL p.count).map D.str)) := fun h => evp_fld tcl_Model tf_Model_names h rfl
  have fld2 : ∀ {S : List M} {te : TE}, EvB K te S (modD CModel p) → EvP K (tFld K te "rules") S (.tup (p.hard.map termD)) := fun h => evp_fld tcl_Model tf_Model_rules h rfl
  have fld3 : ∀ {S : List M} {te : TE}, EvB K te S (modD CModel p) → EvP K (tFld K te "costs") S (.tup (p.soft.map costD)) := fun h => evp_fld tcl_Model tf_Model_costs h rfl
  have nd := nmL_nd hn
  refine' st_seq (st_ifP (b := decide ((60 : Int) < (((nmL p.count).map D.str).length : Int)) || !decide (((nmL p.count).length : Int) = (((nmL p.count).map D.str).length : Int))) ?v1 (fun hb => ?v2) fun _ => st_nil ?v3)
  case v1 =>
    refine' tpp_or ?v4 fun _ => ?v5
    case v4 => walk_at "ev"
    case v5 =>
      refine' tpp_test (evp_op (EvP.b (evp_lenSet ?v6 nd (by omega))) ?v7 v_nei)
      case v6 => walk_at "ev"
      case v7 => walk_at "ev"
  case v2 =>
    rw [List.length_map, decide_eq_false (by omega)] at hb
    simp at hb
  case v3 =>
  have nok := nmL_ok hn
  refine' st_seq (st_ifP (b := !((nmL p.count).all fun _ => true)) ?w1 (fun hb => by simp at hb) fun _ => st_nil ?w2)
  case w1 =>
    refine' tpp_not (tpp_tr (d := .bl _) (EvP.b (evp_cb (EvP.b (EvF.p (evf_lcA (xs := nmL p.count) (f := D.str) (r := fun _ => .bl true) ?w3 (by omega) ?w4))) v_all)) rfl)
    case w3 => walk_at "wk"
    case w4 =>
      intro z hz
      have := nok z hz
      refine ⟨_, gt_name, ?_⟩
      walk_at "ev"
  case w2 =>
  refine' st_seq (st_forT (vs := [6]) (xs := p.hard ++ p.soft.map (·.1)) (f := termD) (fun pre S' => ∃ a6 : M, S' = [M.o (modD CModel p), m1, m2, m3, .no, .no, a6]) ?x1 (by decide) ⟨.no, rfl⟩ ?x2 ?x3)
  case x1 =>
    refine' wkp_lst (EvP.is (d := .lst (p.hard.map termD ++ p.soft.map fun s => termD s.1)) (EvF.p (evf_op (x := .lst (p.hard.map termD)) (y := .lst (p.soft.map fun s => termD s.1)) ?x4 ?x5 (v_cat (by simp; omega)))) (by rw [List.map_append, List.map_map]; rfl))
    case x4 => walk_at "ev"
    case x5 =>
      refine' EvP.b (EvF.p (evf_lcA (xs := p.soft) (f := costD) (r := fun s => termD s.1) ?x7 sl2 ?x8))
      case x7 => walk_at "wk"
      case x8 =>
        intro s hs
        refine ⟨_, gt_name, ?_⟩
        unfold costD
        walk_at "ev"
  case x2 =>
    rintro pre c post S' e ⟨a6, rfl⟩
    have hc : ClOk p.count c := by
      have hm : c ∈ p.hard ++ p.soft.map (·.1) := by rw [e]; simp
      rcases List.mem_append.mp hm with h | h
      · exact ok.hard c h
      · obtain ⟨s, hs, rfl⟩ := List.mem_map.mp h
        exact (ok.soft s hs).1
    have hc5 := hc.mono hn
    have hcl := hc5.len
    have inL : ∀ z ∈ (natI c).map nmI, z ∈ nmL p.count := fun z hz => by
      obtain ⟨i, hi, rfl⟩ := List.mem_map.mp hz
      obtain ⟨l, hl, rfl⟩ := List.mem_map.mp hi
      have := hc.lit l hl
      unfold LitOk at this
      exact nmL_mem (by omega)
    refine ⟨_, gt_name, ?_⟩
    show StN K [0] _ [M.o (modD CModel p), m1, m2, m3, .no, .no, .d (termD c)] _
    refine' st_ifP (b := !(((natI c).map nmI).all fun z => decide (z ∈ nmL p.count))) ?y1 (fun hb => ?y2) fun _ => st_nil ⟨_, rfl⟩
    case y1 =>
      refine' tpp_not (tpp_tr (d := .bl _) (EvP.b (evp_cb (EvP.b (EvF.p (evf_lcA (xs := (natI c).map nmI) (f := D.str) (r := fun z => .bl (decide (z ∈ nmL p.count))) ?y3 (by rw [List.length_map, List.length_map]; omega) ?y4))) v_all)) rfl)
      case y3 =>
        refine' WkP.b (wkp_lst ?y5)
        case y5 =>
          show EvP K _ _ (namesD c)
          walk_at "ev"
      case y4 =>
        intro z hz
        refine ⟨_, gt_name, ?_⟩
        refine' evp_in (x := .str z) (y := .tup ((nmL p.count).map D.str)) ?y6 ?y7 v_in_strt
        case y6 => walk_at "ev"
        case y7 => walk_at "ev"
    case y2 =>
      rw [List.all_eq_true.mpr fun z hz => decide_eq_true (inL z hz)] at hb
      cases hb
  case x3 =>
    rintro S' ⟨a6, rfl⟩
    refine' st_ifP (b := !(p.soft.all fun s => decide ((1 : Int) ≤ s.2) && decide (s.2 ≤ 1000000000))) ?z1 (fun hb => ?z2) fun _ => st_nil ⟨le_rt rfl, hR⟩
    case z1 =>
      refine' tpp_not (tpp_tr (d := .bl _) (EvP.b (evp_cb (EvP.b (EvF.p (evf_lcA (xs := p.soft) (f := costD) (r := fun s => .bl (decide ((1 : Int) ≤ s.2) && decide (s.2 ≤ 1000000000))) ?z3 sl2 ?z4))) v_all)) rfl)
      case z3 => walk_at "wk"
      case z4 =>
        intro s hs
        refine ⟨_, gt_name, ?_⟩
        unfold costD
        walk_at "ev"
    case z2 =>
      have e : (p.soft.all fun s => decide ((1 : Int) ≤ s.2) && decide (s.2 ≤ 1000000000)) = true := List.all_eq_true.mpr fun s hs => by
        have := (ok.soft s hs).2
        rw [decide_eq_true this.1, decide_eq_true this.2]; rfl
      rw [e] at hb
      cases hb
end
open PySem PySem.Spec L2 Evl PyProof.Rows Dl

section
variable {P : Program} {w : World} {K : PySem.W.Frag} {mg : PySem.Str → Option Value} {base : Heap} {CProblem CModel CProgram : Addr}
abbrev s_Model_keeps : Stmt := inClass (top 36) 3
theorem sc_Model_keeps : FnScope ["self", "values", "term"] ["self", "values"] (defScope s_Model_keeps) := ⟨rfl, rfl, rfl, by decide +kernel, rfl, by decide +kernel, by decide +kernel⟩
def ct_mkeeps (C : Addr) : Ct := fun S R => ∃ (p : Pb) (v : List Int) (m0 m1 : M), S = [m0, m1] ∧ m0.rd (modD C p) ∧ m1.rd (.dk (toldK p.count) (v.map D.int)) ∧ Val p.count v ∧ PbOk p ∧ p.count ≤ 5 ∧ R (.bl (goodB p.hard v)) [.no, .no]
theorem c_Model_keeps (F : MethAt K CModel "keeps" "Model.keeps" s_Model_keeps ["self", "values"]) (T : Txt K mg CProblem CModel CProgram)
    (c_value_of : Cal P w K mg base "value_of" 3 ["term", "values"] (spD K (ct_val 3)))
    : MCal P w K mg base CModel "keeps" 4 ["self", "values"] (spD K (ct_mkeeps CModel)) := by
  refine okM F sc_Model_keeps (fun S R h => ?_) fun f cdv A outer s H E hr => ?_
  · obtain ⟨p, v, m0, m1, rfl, hm0, hm1, hv, ok, hn, hR⟩ := h; rfl
  have hu1 := hu1_of hr; have hu64 := hu64_of hr; have hu65 := hu65_of hr
  refine ⟨_, (by exact (pss_one (by exact (ps_ret (by exact (k_callB (kr_all (K := K) rfl rfl) (by rfl) T.n_all (by decide +kernel) (by exact (pa_cons (by exact (pe_lc (own := [("term", 2)]) rfl sc_Model_keeps.nd (by exact (k_sq (K := K) rfl (by exact (k_fld (K := K) rfl (by exact (pv 0)) rfl)))) (blkOk_by (own := [("term", 2)]) (by kernel_rfl)) (by intros; exact (by exact (pg_name (i := 2) sc_Model_keeps.nd rfl (Or.inl rfl)))) (by intros; exact pts_nil) (by intros; exact (by exact (pe_cal c_value_of (hr.mono (by first | decide | omega)) (by rfl) (by exact (pa_cons (by exact (pv 2)) (by exact (pa_cons (by exact (pv 1)) pa_nil (by rfl))) (by rfl)))))) (by intro _; rfl))) pa_nil (by rfl))) (by decide) (by decide) (by rfl) (by rfl))))))), fun S R h => ?_⟩
  have tcl_Model := T.cl_Model; have tf_Model_rules := T.f_Model_rules
  clear hu1 hu64 hu65 hr F T
  obtain ⟨p, v, m0, m1, rfl, hm0, hm1, hv, ok, hn, hR⟩ := h
  refine ⟨[], by decide, fun i hi => (by cases hi), ?_⟩
  refine st_imp (show slot0 _ [m0, m1] = [m0, m1, .no] from rfl) ?_
  have hl := ok.hl
  have hl2 : p.hard.length ≤ 50000 := by omega
  have fld2 : ∀ {S : List M} {te : TE}, EvB K te S (modD CModel p) → EvP K (tFld K te "rules") S (.tup (p.hard.map termD)) := fun h => evp_fld tcl_Model tf_Model_rules h rfl
  refine' st_retP (d := .bl (goodB p.hard v)) (evp_cb (EvP.b (EvF.p (evf_lcA (xs := p.hard) (f := termD) (r := fun c => .bl (holdsB c v)) ?u1 hl2 ?u2))) v_all) ⟨le_rt rfl, hR⟩
  case u1 =>
    refine' WkP.b (wkp_tup (fld2 ?u3))
    case u3 => walk_at "ev"
  case u2 =>
    intro c hc
    refine ⟨_, gt_name, ?_⟩
    have cl := (ok.hard c hc).len
    exact evp_call (by walk_at "ar") rfl ⟨p.count, v, _, Tq.or_ c, rfl, rd_toB (by walk_at "rd"), hv, hn, ⟨(ok.hard c hc).lit, by omega, Nat.le_refl _⟩, rfl⟩
abbrev s_Model_price : Stmt := inClass (top 36) 4
theorem sc_Model_price : FnScope ["self", "values", "weight", "paid", "term"] ["self", "values"] (defScope s_Model_price) := ⟨rfl, rfl, rfl, by decide +kernel, rfl, by decide +kernel, by decide +kernel⟩
def ct_mprice (C : Addr) : Ct := fun S R => ∃ (p : Pb) (v : List Int) (m0 m1 : M), S = [m0, m1] ∧ m0.rd (modD C p) ∧ m1.rd (.dk (toldK p.count) (v.map D.int)) ∧ Val p.count v ∧ PbOk p ∧ p.count ≤ 5 ∧ R (.int (price p v)) [.no, .no]
theorem c_Model_price (F : MethAt K CModel "price" "Model.price" s_Model_price ["self", "values"]) (T : Txt K mg CProblem CModel CProgram)
    (c_value_of : Cal P w K mg base "value_of" 3 ["term", "values"] (spD K (ct_val 3)))
    : MCal P w K mg base CModel "price" 4 ["self", "values"] (spD K (ct_mprice CModel)) := by
  refine okM F sc_Model_price (fun S R h => ?_) fun f cdv A outer s H E hr => ?_
  · obtain ⟨p, v, m0, m1, rfl, hm0, hm1, hv, ok, hn, hR⟩ := h; rfl
  have hu1 := hu1_of hr; have hu64 := hu64_of hr; have hu65 := hu65_of hr
  refine ⟨_, (by exact (pss_one (by exact (ps_ret (by exact (k_callB (kr_sum (K := K) rfl rfl) (by rfl) T.n_sum (by decide +kernel) (by exact (pa_cons (by exact (pe_lc (own := [("weight", 2), ("paid", 3), ("term", 4)]) rfl sc_Model_price.nd (by exact (k_sq (K := K) rfl (by exact (k_fld (K := K) rfl (by exact (pv 0)) rfl)))) (blkOk_by (own := [("weight", 2), ("paid", 3), ("term", 4)]) (by kernel_rfl)) (by intros; exact (by exact (k_tup (K := K) (n := 3) rfl rfl (by exact (pgs_cons (by exact (pg_name (i := 2) sc_Model_price.nd rfl (Or.inl rfl))) (by exact (pgs_cons (by exact (pg_name (i := 3) sc_Model_price.nd rfl (Or.inl rfl))) (by exact (pgs_cons (by exact (pg_name (i := 4) sc_Model_price.nd rfl (Or.inl rfl))) pgs_nil)))))) (by rfl) (by rfl)))) (by intros; exact pts_one (by exact (kt_eq (K := K) rfl hu64 (by exact (pe_cal c_value_of (hr.mono (by first | decide | omega)) (by rfl) (by exact (pa_cons (by exact (pv 4)) (by exact (pa_cons (by exact (pv 1)) pa_nil (by rfl))) (by rfl))))) (by exact (pv 3))))) (by intros; exact (by exact (pv 2))) (by intro _; rfl))) pa_nil (by rfl))) (by decide) (by decide) (by rfl) (by rfl))))))), fun S R h => ?_⟩
  have tcl_Model := T.cl_Model; have tf_Model_costs := T.f_Model_costs
  have tcl_Program := T.cl_Program; have tf_Program_costs := T.f_Program_costs
  clear hu1 hu64 hu65 hr F T
  obtain ⟨p, v, m0, m1, rfl, hm0, hm1, hv, ok, hn, hR⟩ := h
  refine ⟨[], by decide, fun i hi => (by cases hi), ?_⟩
  refine st_imp (show slot0 _ [m0, m1] = [m0, m1, .no, .no, .no] from rfl) ?_
  have hl := ok.sl
  have hl2 : p.soft.length ≤ 50000 := by omega
  have fld3 : ∀ {S : List M} {te : TE}, EvB K te S (modD CModel p) → EvP K (tFld K te "costs") S (.tup (p.soft.map costD)) := fun h => evp_fld tcl_Model tf_Model_costs h rfl
  refine' st_retP (d := .int (price p v)) (EvP.is (d := .int ((p.soft.filter fun s => decide (holdsB s.1 v = false)).map fun s => s.2).sum) (evp_cb (EvP.b (EvF.p (evf_lc (xs := p.soft) (f := costD) (r := fun s => .int s.2) (p := fun s => decide (holdsB s.1 v = false)) ?u1 hl2 ?u2))) v_sum) ?u9) ⟨le_rt rfl, hR⟩
  case u9 =>
    unfold price
    have e : (fun s : List Int × Int => decide (holdsB s.1 v = false)) = fun s => !holdsB s.1 v := by
      funext s; cases holdsB s.1 v <;> rfl
    rw [e]
  case u1 =>
    refine' WkP.b (wkp_tup (fld3 ?u3))
    case u3 => walk_at "ev"
  case u2 =>
    intro s hs
    have cl := (ok.soft s hs).1.len
    refine ⟨_, by unfold costD; walk_at "gt", ?_, fun _ => ?_⟩
    · refine tpp_test (evp_op (x := .bl (holdsB s.1 v)) (y := .bl false) (EvP.b (evp_call (by walk_at "ar") rfl ⟨p.count, v, _, Tq.or_ s.1, rfl, rd_toB (by walk_at "rd"), hv, hn, ⟨(ok.soft s hs).1.lit, by omega, Nat.le_refl _⟩, rfl⟩)) (by walk_at "ev") v_eqbl)
    · walk_at "ev"
abbrev s_is_cost : Stmt := top 41
theorem sc_is_cost : FnScope ["cost", "count", "literal", "weight"] ["cost", "count"] (defScope s_is_cost) := ⟨rfl, rfl, rfl, by decide +kernel, rfl, by decide +kernel, by decide +kernel⟩
def ct_isCost : Ct := fun S R => ∃ (q : Int × Int) (n : Nat), S = [.d (wtD q), .d (.int n)] ∧ LitOk n q.1 ∧ 1 ≤ q.2 ∧ q.2 ≤ 1000000000 ∧ R (.bl true) [.no, .no]
theorem c_is_cost (F : FunAt K mg "is_cost" s_is_cost ["cost", "count"]) (T : Txt K mg CProblem CModel CProgram)
    : Cal P w K mg base "is_cost" 1 ["cost", "count"] (spD K (ct_isCost)) := by
  refine okC F sc_is_cost (fun S R h => ?_) fun f cdv A outer s H E hr => ?_
  · obtain ⟨q, n, rfl, hq, h1, h2, hR⟩ := h; rfl
  have hu1 := hu1_of hr; have hu64 := hu64_of hr; have hu65 := hu65_of hr
  refine ⟨_, (by exact (pss_cons (by exact (ps_asg (by exact (pv 0)) (by exact (k_tup (K := K) (n := 2) rfl rfl (by exact (pgs_cons (by exact (pg_name (i := 2) sc_is_cost.nd rfl (Or.inl rfl))) (by exact (pgs_cons (by exact (pg_name (i := 3) sc_is_cost.nd rfl (Or.inl rfl))) pgs_nil)))) (by rfl) (by rfl)))))
      (by exact (pss_one (by exact (ps_ret (by exact (pe_and (by exact (k_ne (K := K) rfl hu64 (by exact (pv 2)) (by exact pe_int))) (pe_and (by exact (pe_cmpR op_le (by exact (k_callB cr_absI (by rfl) T.n_abs (by decide +kernel) (by exact (pa_cons (by exact (pv 2)) pa_nil (by rfl))) (by decide) (by decide) (by rfl) (by rfl))) (by exact (pv 1)) (nomark _))) (pe_one (by exact (pe_chain op_le op_le (by exact pe_int) (by exact (pv 3)) (by exact (pe_globI rfl T.g_MOST_WEIGHT)))))))))))))), fun S R h => ?_⟩
  clear hu1 hu64 hu65 hr F T
  obtain ⟨q, n, rfl, hq, h1, h2, hR⟩ := h
  refine ⟨[], by decide, fun i hi => (by cases hi), ?_⟩
  refine st_imp (show slot0 _ [M.d (wtD q), .d (.int n)] = [M.d (wtD q), .d (.int n), .no, .no] from rfl) ?_
  have hq1 := hq.1; have hq2 := hq.2
  unfold wtD
  refine' st_seq (st_asg (vs := [2, 3]) (by decide) (EvP.n (d := .tup [.int q.1, .int q.2]) (evp_var rfl) ⟨_, ?gx, ?u1⟩))
  case gx => walk_at "gt"
  case u1 =>
  show StN K [] _ [M.d (.tup [.int q.1, .int q.2]), .d (.int n), .d (.int q.1), .d (.int q.2)] _
  refine' st_retP (d := .bl true) (EvP.is (d := .bl (!decide (q.1 = 0) && (decide ((q.1.natAbs : Int) ≤ (n : Int)) && (decide ((1 : Int) ≤ q.2) && decide (q.2 ≤ 1000000000))))) ?u2 ?u3) ⟨le_rt rfl, hR⟩
  case u2 => walk_at "ev"
  case u3 =>
    rw [decide_eq_false hq1, decide_eq_true (show (q.1.natAbs : Int) ≤ (n : Int) by omega), decide_eq_true h1, decide_eq_true h2]
    rfl
abbrev s_weight_of : Stmt := top 42
theorem sc_weight_of : FnScope ["terms", "values", "literal", "number"] ["terms", "values"] (defScope s_weight_of) := ⟨rfl, rfl, rfl, by decide +kernel, rfl, by decide +kernel, by decide +kernel⟩
def wtB (cs : List (Int × Int)) (v : List Int) : Int := ((cs.filter fun q => litB q.1 v).map fun q => q.2).sum
def ct_weight : Ct := fun S R => ∃ (cs : List (Int × Int)) (v : List Int), S = [.d (.tup (cs.map wtD)), .d (clD v)] ∧ cs.length ≤ 1000 ∧ (∀ q ∈ cs, LitOk v.length q.1) ∧ R (.int (wtB cs v)) [.no, .no]
theorem c_weight_of (F : FunAt K mg "weight_of" s_weight_of ["terms", "values"]) (T : Txt K mg CProblem CModel CProgram)
    (c_is_true : Cal P w K mg base "is_true" 1 ["literal", "values"] (spD K (ct_is_true)))
    : Cal P w K mg base "weight_of" 2 ["terms", "values"] (spD K (ct_weight)) := by
  refine okC F sc_weight_of (fun S R h => ?_) fun f cdv A outer s H E hr => ?_
  · obtain ⟨cs, v, rfl, hl, hc, hR⟩ := h; rfl
  have hu1 := hu1_of hr; have hu64 := hu64_of hr; have hu65 := hu65_of hr
  refine ⟨_, (by exact (pss_one (by exact (ps_ret (by exact (k_callB (kr_sum (K := K) rfl rfl) (by rfl) T.n_sum (by decide +kernel) (by exact (pa_cons (by exact (pe_lc (own := [("literal", 2), ("number", 3)]) rfl sc_weight_of.nd (by exact (k_sq (K := K) rfl (by exact (pv 0)))) (blkOk_by (own := [("literal", 2), ("number", 3)]) (by kernel_rfl)) (by intros; exact (by exact (k_tup (K := K) (n := 2) rfl rfl (by exact (pgs_cons (by exact (pg_name (i := 2) sc_weight_of.nd rfl (Or.inl rfl))) (by exact (pgs_cons (by exact (pg_name (i := 3) sc_weight_of.nd rfl (Or.inl rfl))) pgs_nil)))) (by rfl) (by rfl)))) (by intros; exact pts_one (by exact (k_tr (K := K) rfl (by exact (pe_cal c_is_true (hr.mono (by first | decide | omega)) (by rfl) (by exact (pa_cons (by exact (pv 2)) (by exact (pa_cons (by exact (pv 1)) pa_nil (by rfl))) (by rfl))))) (fun _ => rfl)))) (by intros; exact (by exact (pv 3))) (by intro _; rfl))) pa_nil (by rfl))) (by decide) (by decide) (by rfl) (by rfl))))))), fun S R h => ?_⟩
  clear hu1 hu64 hu65 hr F T
  obtain ⟨cs, v, rfl, hl, hc, hR⟩ := h
  refine ⟨[], by decide, fun i hi => (by cases hi), ?_⟩
  refine st_imp (show slot0 _ [M.d (.tup (cs.map wtD)), .d (clD v)] = [M.d (.tup (cs.map wtD)), .d (clD v), .no, .no] from rfl) ?_
  have hl2 : cs.length ≤ 50000 := by omega
  refine' st_retP (d := .int (wtB cs v)) (evp_cb (EvP.b (EvF.p (evf_lc (xs := cs) (f := wtD) (r := fun q => .int q.2) (p := fun q => litB q.1 v) ?u1 hl2 ?u2))) v_sum) ⟨le_rt rfl, hR⟩
  case u1 => walk_at "wk"
  case u2 =>
    intro q hq
    have hq' := hc q hq
    refine ⟨_, by unfold wtD; walk_at "gt", ?_, fun _ => ?_⟩
    · walk_at "ev"
    · walk_at "ev"
abbrev s_Program_cost : Stmt := inClass (top 39) 4
theorem sc_Program_cost : FnScope ["self", "values"] ["self", "values"] (defScope s_Program_cost) := ⟨rfl, rfl, rfl, by decide +kernel, rfl, by decide +kernel, by decide +kernel⟩
def ct_pcost (C : Addr) : Ct := fun S R => ∃ (n : Int) (cs : List (Int × Int)) (v : List Int), S = [.d (progD C n cs), .d (clD v)] ∧ cs.length ≤ 1000 ∧ (∀ q ∈ cs, LitOk v.length q.1) ∧ R (.int (wtB cs v)) [.no, .no]
theorem c_Program_cost (F : MethAt K CProgram "cost" "Program.cost" s_Program_cost ["self", "values"]) (T : Txt K mg CProblem CModel CProgram)
    (c_weight_of : Cal P w K mg base "weight_of" 2 ["terms", "values"] (spD K (ct_weight)))
    : MCal P w K mg base CProgram "cost" 3 ["self", "values"] (spD K (ct_pcost CProgram)) := by
  refine okM F sc_Program_cost (fun S R h => ?_) fun f cdv A outer s H E hr => ?_
  · obtain ⟨n, cs, v, rfl, hl, hc, hR⟩ := h; rfl
  have hu1 := hu1_of hr; have hu64 := hu64_of hr; have hu65 := hu65_of hr
  refine ⟨_, (by exact (pss_one (by exact (ps_ret (by exact (pe_cal c_weight_of (hr.mono (by first | decide | omega)) (by rfl) (by exact (pa_cons (by exact (k_fld (K := K) rfl (by exact (pv 0)) rfl)) (by exact (pa_cons (by exact (pv 1)) pa_nil (by rfl))) (by rfl))))))))), fun S R h => ?_⟩
  have tcl_Model := T.cl_Model; have tf_Model_costs := T.f_Model_costs
  have tcl_Program := T.cl_Program; have tf_Program_costs := T.f_Program_costs
  clear hu1 hu64 hu65 hr F T
  obtain ⟨n, cs, v, rfl, hl, hc, hR⟩ := h
  refine ⟨[], by decide, fun i hi => (by cases hi), ?_⟩
  refine st_imp (show slot0 _ [M.d (progD CProgram n cs), .d (clD v)] = [M.d (progD CProgram n cs), .d (clD v)] from rfl) ?_
  have fld3 : ∀ {S : List M} {te : TE}, EvB K te S (progD CProgram n cs) → EvP K (tFld K te "costs") S (.tup (cs.map wtD)) := fun h => evp_fld tcl_Program tf_Program_costs h rfl
  refine' st_retP (d := .int (wtB cs v)) (evp_call (arp_p (fld3 ?u1) (arp_p (by walk_at "ev") arp_nil)) rfl ⟨cs, v, rfl, hl, hc, rfl⟩) ⟨le_rt rfl, hR⟩
  case u1 => walk_at "ev"
abbrev s_is_term : Stmt := top 40
theorem sc_is_term : FnScope ["term", "count", "literal", "number"] ["term", "count"] (defScope s_is_term) := ⟨rfl, rfl, rfl, by decide +kernel, rfl, by decide +kernel, by decide +kernel⟩
abbrev s_row_of : Stmt := top 34
theorem sc_row_of : FnScope ["pairs", "degree", "found", "literal", "number", "both", "kept", "_"] ["pairs", "degree"] (defScope s_row_of) := ⟨rfl, rfl, rfl, by decide +kernel, rfl, by decide +kernel, by decide +kernel⟩
abbrev s_Program_init : Stmt := inClass (top 39) 0
theorem sc_Program_init : FnScope ["self", "count", "rows", "costs", "term", "terms", "degree", "cost", "literal", "_"] ["self", "count", "rows", "costs"] (defScope s_Program_init) := ⟨rfl, rfl, rfl, by decide +kernel, rfl, by decide +kernel, by decide +kernel⟩
def ct_Program (C : Addr) : Ct := fun S R => ∃ (n : Nat) (cs : List (Int × Int)) (m2 m3 : M), S = [.o (.ins C [] []), .d (.int n), m2, m3] ∧ m2.rd (.lst []) ∧ m3.rd (.lst (cs.map wtD)) ∧ n ≤ 300 ∧ cs.length ≤ 1000 ∧ (∀ q ∈ cs, LitOk n q.1 ∧ 1 ≤ q.2 ∧ q.2 ≤ 1000000000) ∧ (cs.map fun q => ((q.1.natAbs : Nat) : Int)).Nodup ∧ R .non [.o (progD C n cs), .no, .no, .no]
def ct_never : Ct := fun _ _ => False
theorem c_Program (F : InitAt K mg "Program" CProgram "__init__" "Program.__init__" s_Program_init ["self", "count", "rows", "costs"]) (T : Txt K mg CProblem CModel CProgram)
    (c_is_cost : Cal P w K mg base "is_cost" 1 ["cost", "count"] (spD K (ct_isCost)))
    (c_is_term : Cal P w K mg base "is_term" 1 ["term", "count"] (spD K (ct_never)))
    (c_row_of : Cal P w K mg base "row_of" 1 ["pairs", "degree"] (spD K (ct_never)))
    : ICal P w K mg base "Program" CProgram 3 ["self", "count", "rows", "costs"] (spD K (ct_Program CProgram)) := by
  refine okI F sc_Program_init (fun S R h => ?_) fun f cdv A outer s H E hr => ?_
  · obtain ⟨n, cs, m2, m3, rfl, hm2, hm3, hn, hl, hc, nd, hR⟩ := h; rfl
  have hu1 := hu1_of hr; have hu64 := hu64_of hr; have hu65 := hu65_of hr
  refine ⟨_, (by exact (pss_cons (by exact (ps_fld (by exact (pv 0)) (by exact (pv 1)) rfl))
      (by exact (pss_cons (by exact (ps_fld (by exact (pv 0)) (by exact (k_tupleOf (K := K) rfl (by rfl) T.n_tuple (by exact (pe_lc (own := [("terms", 5), ("degree", 6)]) rfl sc_Program_init.nd (by exact (k_sq (K := K) rfl (by exact (pv 2)))) (blkOk_by (own := [("terms", 5), ("degree", 6)]) (by kernel_rfl)) (by intros; exact (by exact (k_tup (K := K) (n := 2) rfl rfl (by exact (pgs_cons (by exact (pg_name (i := 5) sc_Program_init.nd rfl (Or.inl rfl))) (by exact (pgs_cons (by exact (pg_name (i := 6) sc_Program_init.nd rfl (Or.inl rfl))) pgs_nil)))) (by rfl) (by rfl)))) (by intros; exact pts_nil) (by intros; exact (by exact (pe_cal c_row_of (hr.mono (by first | decide | omega)) (by rfl) (by exact (pa_cons (by exact (pe_lc (own := [("term", 4)]) rfl sc_Program_init.nd (by exact (k_sq (K := K) rfl (by exact (pv 5)))) (blkOk_by (own := [("term", 4)]) (by kernel_rfl)) (by intros; exact (by exact (pg_name (i := 4) sc_Program_init.nd rfl (Or.inl rfl)))) (by intros; exact pts_nil) (by intros; exact (by exact (k_tupleOf (K := K) rfl (by rfl) T.n_tuple (by exact (pv 4)) (by rfl)))) (by intro _; rfl))) (by exact (pa_cons (by exact (pv 6)) pa_nil (by rfl))) (by rfl)))))) (by intro _; rfl))) (by rfl))) rfl))
      (by exact (pss_cons (by exact (ps_fld (by exact (pv 0)) (by exact (k_tupleOf (K := K) rfl (by rfl) T.n_tuple (by exact (pe_lc (own := [("cost", 7)]) rfl sc_Program_init.nd (by exact (k_sq (K := K) rfl (by exact (pv 3)))) (blkOk_by (own := [("cost", 7)]) (by kernel_rfl)) (by intros; exact (by exact (pg_name (i := 7) sc_Program_init.nd rfl (Or.inl rfl)))) (by intros; exact pts_nil) (by intros; exact (by exact (k_tupleOf (K := K) rfl (by rfl) T.n_tuple (by exact (pv 7)) (by rfl)))) (by intro _; rfl))) (by rfl))) rfl))
      (by exact (pss_cons (by exact (ps_if (by exact (pt_not (by exact (pt_chain op_le op_le (by exact pe_int) (by exact (pv 1)) (by exact (pe_globI rfl T.g_MOST_COUNT)))))) (by exact (pss_one (by exact ps_never))) pss_nil))
      (by exact (pss_cons (by exact (ps_for PassesOwn.never rfl (by exact (k_sq (K := K) rfl (by exact (k_fld (K := K) rfl (by exact (pv 0)) rfl)))) (by exact (k_tup (K := K) (n := 2) rfl rfl (by exact (pgs_cons (by exact (pg_name (i := 5) sc_Program_init.nd rfl (Or.inl rfl))) (by exact (pgs_cons (by exact (pg_name (i := 6) sc_Program_init.nd rfl (Or.inl rfl))) pgs_nil)))) (by rfl) (by rfl))) (by exact (pss_one (by exact (ps_if (by exact (PW.pt (by exact (by exact (pw_or (by exact (pt_cmpR op_gt (by exact (k_callB (kr_len (K := K) rfl) (by rfl) T.n_len (by decide +kernel) (by exact (pa_cons (by exact (pv 5)) pa_nil (by rfl))) (by decide) (by decide) (by rfl) (by rfl))) (by exact (pe_globI rfl T.g_MOST_ITEMS)) (nomark _))) (by exact (pw_or (by exact (pt_not (by exact (k_tr (K := K) rfl (by exact (k_callB (kr_all (K := K) rfl rfl) (by rfl) T.n_all (by decide +kernel) (by exact (pa_cons (by exact (pe_lc (own := [("term", 4)]) rfl sc_Program_init.nd (by exact (k_sq (K := K) rfl (by exact (pv 5)))) (blkOk_by (own := [("term", 4)]) (by kernel_rfl)) (by intros; exact (by exact (pg_name (i := 4) sc_Program_init.nd rfl (Or.inl rfl)))) (by intros; exact pts_nil) (by intros; exact (by exact (pe_cal c_is_term (hr.mono (by first | decide | omega)) (by rfl) (by exact (pa_cons (by exact (pv 4)) (by exact (pa_cons (by exact (pv 1)) pa_nil (by rfl))) (by rfl)))))) (by intro _; rfl))) pa_nil (by rfl))) (by decide) (by decide) (by rfl) (by rfl))) (fun _ => rfl))))) (by exact (pw_or1 (by exact (pt_cmpR op_gt (by exact (pv 6)) (by exact (pe_globI rfl T.g_MOST_NUMBER)) (nomark _)))))))))))) (by exact (pss_one (by exact ps_never))) pss_nil))))))
      (by exact (pss_cons (by exact (ps_if (by exact (pt_not (by exact (k_tr (K := K) rfl (by exact (k_callB (kr_all (K := K) rfl rfl) (by rfl) T.n_all (by decide +kernel) (by exact (pa_cons (by exact (pe_lc (own := [("cost", 7)]) rfl sc_Program_init.nd (by exact (k_sq (K := K) rfl (by exact (k_fld (K := K) rfl (by exact (pv 0)) rfl)))) (blkOk_by (own := [("cost", 7)]) (by kernel_rfl)) (by intros; exact (by exact (pg_name (i := 7) sc_Program_init.nd rfl (Or.inl rfl)))) (by intros; exact pts_nil) (by intros; exact (by exact (pe_cal c_is_cost (hr.mono (by first | decide | omega)) (by rfl) (by exact (pa_cons (by exact (pv 7)) (by exact (pa_cons (by exact (pv 1)) pa_nil (by rfl))) (by rfl)))))) (by intro _; rfl))) pa_nil (by rfl))) (by decide) (by decide) (by rfl) (by rfl))) (fun _ => rfl))))) (by exact (pss_one (by exact ps_never))) pss_nil))
      (by exact (pss_one (by exact (ps_if (by exact (kt_ne (K := K) rfl hu64 (by exact (k_callB (kr_lenK (P := P) (w := w) rfl rfl) (by rfl) T.n_len (by decide +kernel) (by exact (pa_cons (by exact (k_scK (K := K) (P := P) (w := w) rfl rfl rfl hu64 (own := [("literal", 8), ("_", 9)]) rfl sc_Program_init.nd (by exact (k_sq (K := K) rfl (by exact (k_fld (K := K) rfl (by exact (pv 0)) rfl)))) (blkOk_by (own := [("literal", 8), ("_", 9)]) (by kernel_rfl)) (by intros; exact (by exact (k_tup (K := K) (n := 2) rfl rfl (by exact (pgs_cons (by exact (pg_name (i := 8) sc_Program_init.nd rfl (Or.inl rfl))) (by exact (pgs_cons (by exact (pg_name (i := 9) sc_Program_init.nd rfl (Or.inl rfl))) pgs_nil)))) (by rfl) (by rfl)))) (by intros; exact pts_nil) (by intros; exact (by exact (k_callB cr_absI (by rfl) T.n_abs (by decide +kernel) (by exact (pa_cons (by exact (pv 8)) pa_nil (by rfl))) (by decide) (by decide) (by rfl) (by rfl)))) (by intro _; rfl))) pa_nil (by rfl))) (by decide) (by decide) (by rfl) (by rfl))) (by exact (k_callB (kr_len (K := K) rfl) (by rfl) T.n_len (by decide +kernel) (by exact (pa_cons (by exact (k_fld (K := K) rfl (by exact (pv 0)) rfl)) pa_nil (by rfl))) (by decide) (by decide) (by rfl) (by rfl))))) (by exact (pss_one (by exact ps_never))) pss_nil)))))))))))))))), fun S R h => ?_⟩
  have tcl_Problem := T.cl_Problem; have tf_Problem_count := T.f_Problem_count
  have tcl_Model := T.cl_Model; have tf_Model_costs := T.f_Model_costs
  have tcl_Program := T.cl_Program; have tf_Program_count := T.f_Program_count; have tf_Program_rows := T.f_Program_rows; have tf_Program_costs := T.f_Program_costs
  clear hu1 hu64 hu65 hr F T
  obtain ⟨n, cs, m2, m3, rfl, hm2, hm3, hn, hl, hc, nd, hR⟩ := h
  refine ⟨[0], by decide, fun i hi m' hm' => (by simp at hi; subst hi; cases hm'; rfl), ?_⟩
  refine st_imp (show slot0 _ [M.o (.ins CProgram [] []), .d (.int n), m2, m3] = [M.o (.ins CProgram [] []), .d (.int n), m2, m3, .no, .no, .no, .no, .no, .no] from rfl) ?_
  have hl2 : cs.length ≤ 50000 := by omega
  refine st_seq (st_fld tcl_Program tf_Program_count (EvP.n (d := .int n) (by walk_at "ev") ⟨_, _, rfl, by decide, ?_⟩))
  refine st_seq (st_fld tcl_Program tf_Program_rows (EvP.n (d := .tup []) ?t1 ⟨_, _, rfl, by decide, ?_⟩))
  case t1 =>
    refine' evp_then (EvP.b (EvF.p (evf_lcA (xs := ([] : List Int)) (f := D.int) (r := D.int) ?t2 (le_rt rfl) (fun a ha => by cases ha)))) v_tupl
    case t2 => walk_at "wk"
  refine st_seq (st_fld tcl_Program tf_Program_costs (EvP.n (d := .tup (cs.map wtD)) ?u1 ⟨_, _, rfl, by decide, ?_⟩))
  case u1 =>
    refine' evp_then (EvP.b (EvF.p (evf_lcA (xs := cs) (f := wtD) (r := wtD) ?u2 hl2 ?u3))) v_tupl
    case u2 => walk_at "wk"
    case u3 =>
      intro s hs
      refine ⟨_, gt_name, ?_⟩
      unfold wtD
      walk_at "ev"
  show StN K [0] _ [M.o (progD CProgram n cs), .d (.int n), m2, m3, .no, .no, .no, .no, .no, .no] _
  have fld2 : ∀ {S : List M} {te : TE}, EvB K te S (progD CProgram n cs) → EvP K (tFld K te "rows") S (.tup []) := fun h => evp_fld tcl_Program tf_Program_rows h rfl
  have fld3 : ∀ {S : List M} {te : TE}, EvB K te S (progD CProgram n cs) → EvP K (tFld K te "costs") S (.tup (cs.map wtD)) := fun h => evp_fld tcl_Program tf_Program_costs h rfl
  refine' st_seq (st_ifP (b := !(decide ((0 : Int) ≤ (n : Int)) && decide ((n : Int) ≤ 300))) (by walk_at "ev") (fun hb => ?w1) fun _ => st_nil ?w2)
  case w1 =>
    rw [decide_eq_true (by omega), decide_eq_true (by omega)] at hb
    cases hb
  case w2 =>
  refine' st_seq (st_forT (vs := [5, 6]) (xs := ([] : List Int)) (f := D.int) (fun pre S' => S' = [M.o (progD CProgram n cs), .d (.int n), m2, m3, .no, .no, .no, .no, .no, .no]) ?x1 (by decide) rfl (fun pre a post S' e => by cases pre <;> cases e) ?x2)
  case x1 =>
    refine' wkp_tup (fld2 ?x3)
    case x3 => walk_at "ev"
  case x2 =>
  rintro S' rfl
  refine' st_seq (st_ifP (b := !(cs.all fun _ => true)) ?y1 (fun hb => by simp at hb) fun _ => st_nil ?y2)
  case y1 =>
    refine' tpp_not (tpp_tr (d := .bl _) (EvP.b (evp_cb (EvP.b (EvF.p (evf_lcA (xs := cs) (f := wtD) (r := fun _ => .bl true) ?y3 hl2 ?y4))) v_all)) rfl)
    case y3 =>
      refine' WkP.b (wkp_tup (fld3 ?y5))
      case y5 => walk_at "ev"
    case y4 =>
      intro q hq
      obtain ⟨h1, h2, h3⟩ := hc q hq
      refine ⟨_, gt_name, ?_⟩
      exact evp_call (arp_p (by walk_at "ev") (arp_p (by walk_at "ev") arp_nil)) rfl ⟨q, n, rfl, h1, h2, h3, rfl⟩
  case y2 =>
  refine' st_ifP (b := !decide ((cs.length : Int) = ((cs.map wtD).length : Int))) ?z1 (fun hb => ?z2) fun _ => st_nil ⟨le_rt rfl, hR⟩
  case z2 => rw [List.length_map] at hb; simp at hb
  case z1 =>
    refine' tpp_test (evp_op (EvP.b (evp_lenSc (xs := cs) (f := wtD) (r := fun q => ((q.1.natAbs : Nat) : Int)) ?z3 ?z4 nd hl)) ?z5 v_nei)
    case z3 =>
      refine' WkP.b (wkp_tup (fld3 ?z6))
      case z6 => walk_at "ev"
    case z4 =>
      intro q hq
      refine ⟨_, by unfold wtD; walk_at "gt", ?_⟩
      walk_at "ev"
    case z5 =>
      refine' EvP.b (evp_cb (EvP.b (fld3 ?z7)) v_lent)
      case z7 => walk_at "ev"
end
open PySem L2 Evl Dl
theorem zip_range {α : Type} (xs : List α) (d : α) : xs.zipIdx = (List.range xs.length).map fun k => (xs.getD k d, k) := by
  refine List.ext_getElem (by simp) fun i h1 h2 => ?_
  have hi : i < xs.length := by simpa using h1
  simp [List.getD_eq_getElem?_getD, List.getElem?_eq_getElem hi]
theorem lost_eq (p : Pb) (v : List Int) : (List.range p.soft.length).filter (fun k => !holdsB (p.soft.getD k ([], 0)).1 v) = unpaid p v := by
  unfold unpaid
  rw [zip_range p.soft ([], 0), List.filter_map, List.map_map]
  exact (List.map_id'' (fun _ => rfl) _).symm
def wts (p : Pb) : List Int := p.soft.map fun s => s.2
theorem price_lost (p : Pb) (v : List Int) : ((unpaid p v).map fun k => (wts p).getD k 0).sum = price p v := by
  have e : p.soft = p.soft.zipIdx.map (·.1) := by rw [List.zipIdx_map_fst]
  have e2 : price p v = (((p.soft.zipIdx.filter fun q => !holdsB q.1.1 v).map (·.1)).map fun s => s.2).sum := by
    unfold price
    conv => lhs; rw [e]
    rw [List.filter_map]
    rfl
  rw [e2]
  unfold unpaid
  rw [List.map_map, List.map_map]
  congr 1
  refine List.map_congr_left fun q hq => ?_
  have hm := (List.mem_filter.mp hq).1
  obtain ⟨s, i⟩ := q
  have := List.mem_zipIdx' hm
  obtain ⟨h1, h2⟩ := this
  show (wts p).getD i 0 = s.2
  unfold wts
  rw [List.getD_eq_getElem?_getD, List.getElem?_map, List.getElem?_eq_getElem h1, h2]
  rfl
theorem secP_map (p : Pb) (g : List Int × Int → Int) (v : List Int) : secP p (p.soft.map g) v = ((p.soft.filter fun s => !holdsB s.1 v).map g).sum := by
  unfold secP
  have e : p.soft.zip (p.soft.map g) = p.soft.map fun s => (s, g s) := by
    induction p.soft with
    | nil => rfl
    | cons a l ih => rw [List.map_cons, List.zip_cons_cons, ih]; rfl
  rw [e, List.filter_map, List.map_map]
  rfl
theorem secP_wts (p : Pb) (v : List Int) : secP p (wts p) v = price p v := secP_map p _ v
theorem unpaid_len (p : Pb) (v : List Int) : (unpaid p v).length = (p.soft.filter fun s => !holdsB s.1 v).length := by
  have e : p.soft = p.soft.zipIdx.map (·.1) := by rw [List.zipIdx_map_fst]
  unfold unpaid
  conv => rhs; rw [e]
  rw [List.filter_map, List.length_map, List.length_map]
  rfl
theorem secP_one (p : Pb) (v : List Int) : secP p (List.replicate p.soft.length 1) v = ((unpaid p v).length : Int) := by
  have e : List.replicate p.soft.length (1 : Int) = p.soft.map fun _ => 1 := List.map_const'.symm
  rw [e, secP_map, unpaid_len]
  induction (p.soft.filter fun s => !holdsB s.1 v) with
  | nil => rfl
  | cons a l ih => rw [List.map_cons, List.sum_cons, ih, List.length_cons]; omega
theorem secP_zero (p : Pb) (v : List Int) : secP p (List.replicate p.soft.length 0) v = 0 := by
  have e : List.replicate p.soft.length (0 : Int) = p.soft.map fun _ => 0 := List.map_const'.symm
  rw [e, secP_map]
  induction (p.soft.filter fun s => !holdsB s.1 v) with
  | nil => rfl
  | cons a l ih => rw [List.map_cons, List.sum_cons, ih]; rfl
def costs (p : Pb) : List (Int × Int) := (List.range p.soft.length).map fun (k : Nat) => ((p.count : Int) + 1 + k, (wts p).getD k 0)
theorem mem_unpaid {p : Pb} {v : List Int} {k : Nat} : k ∈ unpaid p v ↔ k < p.soft.length ∧ (!holdsB (p.soft.getD k ([], 0)).1 v) = true := by
  rw [← lost_eq, List.mem_filter, List.mem_range]
theorem mem_cast {l : List Nat} {k : Nat} : ((k : Nat) : Int) ∈ l.map (fun j => ((j : Nat) : Int)) ↔ k ∈ l := by
  rw [List.mem_map]
  exact ⟨fun ⟨j, hj, e⟩ => by have : j = k := by omega
                              exact this ▸ hj, fun h => ⟨k, h, rfl⟩⟩
theorem full_len (p : Pb) (v : List Int) : (fullV p v).length = v.length + p.soft.length := by simp [fullV]
theorem wtB_full {p : Pb} {v : List Int} (hv : v.length = p.count) (wtB : List (Int × Int) → List Int → Int) (hw : ∀ cs v, wtB cs v = ((cs.filter fun q => litB q.1 v).map fun q => q.2).sum) : wtB (costs p) (fullV p v) = price p v := by
  rw [hw, ← price_lost, ← lost_eq]
  unfold costs
  rw [List.filter_map, List.map_map]
  congr 1
  have e : ∀ k ∈ List.range p.soft.length, ((fun q : Int × Int => litB q.1 (fullV p v)) ∘ fun (k : Nat) => ((p.count : Int) + 1 + k, (wts p).getD k 0)) k = !holdsB (p.soft.getD k ([], 0)).1 v := fun k hk => by
    have hk := List.mem_range.mp hk
    show litB ((p.count : Int) + 1 + k) (fullV p v) = _
    unfold litB fullV
    have h1 : ((p.count : Int) + 1 + k).natAbs - 1 = v.length + k := by omega
    have h2 : decide ((0 : Int) < (p.count : Int) + 1 + k) = true := decide_eq_true (by omega)
    rw [h1, h2, List.getD_eq_getElem?_getD, List.getElem?_append_right (by omega), Nat.add_sub_cancel_left, List.getElem?_map, List.getElem?_range hk]
    show decide (b2i (decide (((k : Nat) : Int) ∈ (unpaid p v).map fun j => ((j : Nat) : Int))) = 1) = _
    by_cases q : k ∈ unpaid p v
    · rw [decide_eq_true (mem_cast.mpr q), (mem_unpaid.mp q).2]; rfl
    · rw [decide_eq_false fun z => q (mem_cast.mp z)]
      have : (!holdsB (p.soft.getD k ([], 0)).1 v) = false := by
        rw [Bool.eq_false_iff]; exact fun z => q (mem_unpaid.mpr ⟨hk, z⟩)
      rw [this]; rfl
  rw [List.filter_congr e]
  rfl
/-! the hard clauses that do not hold -/
def badL (p : Pb) (v : List Int) : List Nat := (List.range p.hard.length).filter fun k => !holdsB (p.hard.getD k []) v
theorem mem_bad {p : Pb} {v : List Int} {k : Nat} : k ∈ badL p v ↔ k < p.hard.length ∧ (!holdsB (p.hard.getD k []) v) = true := by
  unfold badL
  rw [List.mem_filter, List.mem_range]
theorem brk_bad (p : Pb) (v : List Int) : brk p v = (badL p v).head? := by
  have key : ∀ (l : List (List Int)) (f : List Int → Bool), l.findIdx? f = ((List.range l.length).filter fun k => f (l.getD k [])).head? := by
    intro l f
    induction l with
    | nil => rfl
    | cons a l ih =>
      rw [List.findIdx?_cons, List.length_cons, List.range_succ_eq_map, List.filter_cons]
      by_cases q : f a = true
      · have : f ((a :: l).getD 0 []) = true := q
        rw [if_pos q, if_pos this]; rfl
      · have : ¬ f ((a :: l).getD 0 []) = true := q
        rw [if_neg q, if_neg this, ih, List.filter_map, List.head?_map]
        rfl
  exact key p.hard _
theorem bad_nil (p : Pb) (v : List Int) : decide (badL p v = []) = goodB p.hard v := by
  have h := brk_none (p := p) (v := v)
  rw [brk_bad, List.head?_eq_none_iff] at h
  by_cases q : goodB p.hard v = true
  · rw [q, decide_eq_true (h.mpr q)]
  · rw [Bool.eq_false_iff.mpr q, decide_eq_false fun z => q (h.mp z)]
theorem bad_at (p : Pb) (v : List Int) (k : Int) : decide (k ∈ (badL p v).map fun j => ((j : Nat) : Int)) = brkAt p v k := by
  unfold brkAt
  by_cases h0 : (0 : Int) ≤ k
  · obtain ⟨j, rfl⟩ : ∃ j : Nat, k = (j : Int) := ⟨k.toNat, by omega⟩
    rw [decide_eq_true h0, Bool.true_and, Int.toNat_natCast]
    by_cases q : j ∈ badL p v
    · have := mem_bad.mp q
      rw [decide_eq_true (mem_cast.mpr q), this.2, decide_eq_true (by omega)]; rfl
    · rw [decide_eq_false fun z => q (mem_cast.mp z)]
      by_cases hj : j < p.hard.length
      · have : (!holdsB (p.hard.getD j []) v) = false := by
          rw [Bool.eq_false_iff]; exact fun z => q (mem_bad.mpr ⟨hj, z⟩)
        rw [this, Bool.and_false]
      · rw [decide_eq_false (show ¬ (j : Int) < (p.hard.length : Int) by omega)]; rfl
  · rw [decide_eq_false h0, Bool.false_and, Bool.false_and]
    refine decide_eq_false fun z => ?_
    obtain ⟨j, _, e⟩ := List.mem_map.mp z
    omega
theorem bad_get (p : Pb) (v : List Int) : atI ((badL p v).map (fun j => D.int (j : Nat)) ++ [.non]) 0 = some (optI (brk p v)) := by
  rw [brk_bad]
  cases badL p v with
  | nil => rfl
  | cons a l => exact atI_nat (j := 0) rfl
/-! the first cheapest row -/
theorem best_ex (p : Pb) (rs : List (List Int)) : ∃ b, BestOf p rs b := by
  have key : ∀ (l : List (List Int)), ∃ b, BestOf p l.reverse b := by
    intro l
    induction l with
    | nil => exact ⟨none, rfl⟩
    | cons r l ih =>
      obtain ⟨b, hb⟩ := ih
      rw [List.reverse_cons]
      cases hr : goodB p.hard r with
      | false => exact ⟨b, hb.skip hr⟩
      | true =>
        cases b with
        | none => exact ⟨_, hb.take hr fun q h => by cases h⟩
        | some q =>
          by_cases h : price p r < price p q
          · exact ⟨_, hb.take hr fun q' e => by cases e; exact h⟩
          · exact ⟨_, hb.stay hr (by omega)⟩
  have := key rs.reverse
  rwa [List.reverse_reverse] at this
theorem best_uniq {p : Pb} {rs : List (List Int)} {b c : Option (List Int)} (h : BestOf p rs b) (k : BestOf p rs c) : b = c := by
  have lem : ∀ {q r : List Int} {l1 l2 k1 k2 : List (List Int)}, l1 ++ q :: l2 = k1 ++ r :: k2 → (∀ x ∈ l1, price p q < price p x) → (∀ x ∈ l2, price p q ≤ price p x) → (∀ x ∈ k1, price p r < price p x) → (∀ x ∈ k2, price p r ≤ price p x) → q = r := by
    intro q r l1 l2 k1 k2 e a1 a2 b1 b2
    rcases List.append_eq_append_iff.mp e with ⟨as, e1, e2⟩ | ⟨as, e1, e2⟩
    · cases as with
      | nil => cases e2; rfl
      | cons x as =>
        rw [List.cons_append] at e2
        cases e2
        have h1 := b1 q (by rw [e1]; simp)
        have h2 := a2 r (by simp)
        omega
    · cases as with
      | nil => cases e2; rfl
      | cons x as =>
        rw [List.cons_append] at e2
        cases e2
        have h1 := a1 r (by rw [e1]; simp)
        have h2 := b2 q (by simp)
        omega
  cases b with
  | none =>
    cases c with
    | none => rfl
    | some r => obtain ⟨l1, l2, e, _⟩ := k; have h' : rs.filter (goodB p.hard) = [] := h; rw [h'] at e; cases l1 <;> cases e
  | some q =>
    obtain ⟨l1, l2, e, a1, a2⟩ := h
    cases c with
    | none => have k' : rs.filter (goodB p.hard) = [] := k; rw [k'] at e; cases l1 <;> cases e
    | some r =>
      obtain ⟨k1, k2, e', b1, b2⟩ := k
      rw [lem (e.symm.trans e') a1 a2 b1 b2]
open PySem PySem.Spec L2 Evl PyProof.Rows Dl

section
variable {P : Program} {w : World} {K : PySem.W.Frag} {mg : PySem.Str → Option Value} {base : Heap} {CProblem CModel CProgram : Addr}
abbrev s_law : Stmt := top 60
theorem sc_law : FnScope ["script", "pool", "count", "hard", "soft", "whole", "problem", "size", "weights", "ones", "clause", "weight", "names", "k", "model", "program", "values", "lost", "bad", "price", "full", "told", "prices", "claim", "due", "number", "rows", "good", "row"] ["script"] (defScope s_law) := ⟨rfl, rfl, rfl, by decide +kernel, rfl, by decide +kernel, by decide +kernel⟩
abbrev namesL (n : Nat) : D := .lst ((nmL n).map D.str)
abbrev LS (CProblem CModel CProgram : Addr) (ns : List Int) (p0 p : Pb) (a16 a17 a18 a19 a20 a21 a22 a23 a24 a25 a26 a27 : M) : List M :=
  [.q ns, .e PoolD, .d (.int p.count), .d (.tup (p0.hard.map clD)), .d (.tup (p0.soft.map softD)), .d (problemD p), .d (probD CProblem p), .d (.int (p.soft.length : Nat)), .d (intsD (wts p)), .d (intsD (List.replicate p.soft.length 1)), .no, .no, .d (namesL p.count), .no, .d (modD CModel p), .d (progD CProgram ((p.count : Int) + (p.soft.length : Nat)) (costs p)), a16, a17, a18, a19, a20, a21, a22, a23, a24, a25, a26, a27, .no]
theorem wkb_is {S : List M} {wi : TI} {ds es : List D} (h : WkB K wi S ds) (e : ds = es) : WkB K wi S es := e ▸ h
theorem sm_int (n : Nat) (i : Int) : Sm (n + 1) (.int i) := .inr (.inr (.inl ⟨i, rfl⟩))
theorem sm_bl (n : Nat) (b : Bool) : Sm (n + 1) (.bl b) := .inr (.inl ⟨b, rfl⟩)
theorem sm_non (n : Nat) : Sm (n + 1) .non := .inl rfl
theorem sm_lst {α : Type} {n : Nat} {xs : List α} {f : α → D} (h : ∀ x ∈ xs, Sm n (f x)) (hl : xs.length ≤ 50000) : Sm (n + 1) (.lst (xs.map f)) := .inr (.inr (.inr (.inr ⟨_, .inr rfl, by rw [List.length_map]; exact hl, fun d hd => by obtain ⟨x, hx, rfl⟩ := List.mem_map.mp hd; exact h x hx⟩)))
theorem sm_tup {α : Type} {n : Nat} {xs : List α} {f : α → D} (h : ∀ x ∈ xs, Sm n (f x)) (hl : xs.length ≤ 50000) : Sm (n + 1) (.tup (xs.map f)) := .inr (.inr (.inr (.inr ⟨_, .inl rfl, by rw [List.length_map]; exact hl, fun d hd => by obtain ⟨x, hx, rfl⟩ := List.mem_map.mp hd; exact h x hx⟩)))
theorem evp_same {S : List M} {ta tb : TE} {d : D} {E : XK} (ha : EvP K ta S d) (hb : EvP K tb S d) (h : Sm 6 d) : EvP K (tCall (spD K (ct_same 6)) [] E (tCons ta (tCons tb tNil))) S (.bl true) := evp_call (arp_p ha (arp_p hb arp_nil)) rfl ⟨d, _, _, rfl, rfl, rfl, h, rfl⟩
theorem tst_same {S : List M} {ta tb : TE} {d : D} {E : XK} (ha : EvP K ta S d) (hb : EvP K tb S d) (h : Sm 6 d) : TpP K (tNot (tTr K (tCall (spD K (ct_same 6)) [] E (tCons ta (tCons tb tNil))))) S false := tpp_not (b := true) (tpp_tr (d := .bl true) (EvP.b (evp_same ha hb h)) rfl)
def dueD (p : Pb) (v : List Int) : D := match brk p v with
  | some i => .tup [.str "breaks", .int (i : Nat)]
  | none => .tup [.str "priced", .int (price p v)]
theorem v_ne_sv {s : PySem.Str} {i : Int} (h : PySem.PyData.strOk s = true) : V2P K (rNeD K) (.tup [.str s, .int i]) (.tup [.str s, .int i]) (.bl false) := by
  have sh : SeqAt.shaped (D.tup [.str s, .int i]).py = true := by
    show ((D.tup [.str s, .int i]).py.canLay0 && decide ((D.tup [.str s, .int i]).py.depth ≤ 64)) = true
    simp [D.py, D.pys, PyData.canLay0, PyData.canLayAll0, PyData.depth, PyData.depthAll, h]
  have := v_ne (K := K) (x := .tup [.str s, .int i]) (y := .tup [.str s, .int i]) rfl rfl sh sh
  have e : PyData.eqv (D.tup [.str s, .int i]).py (D.tup [.str s, .int i]).py = true := by simp [D.py, D.pys, PyData.eqv, PyData.eqvAll]
  rwa [e] at this
theorem v_ne_due (p : Pb) (v : List Int) : V2P K (rNeD K) (dueD p v) (dueD p v) (.bl false) := by
  unfold dueD
  cases brk p v with
  | none => exact v_ne_sv (by decide +kernel)
  | some i => exact v_ne_sv (by decide +kernel)
theorem sm_optI (n : Nat) (o : Option Nat) : Sm (n + 1) (optI o) := by
  cases o with
  | none => exact sm_non _
  | some i => exact sm_int _ _
def ct_law : Ct := fun S R => ∃ ns : List Int, S = [.q ns] ∧ R (.bl true) [.no]
theorem c_law {f : Addr} {fd : FuncData} (F : Fun K "law" "law" s_law f fd) (T : Txt K mg CProblem CModel CProgram)
    (c_law_pool : Cal P w K mg base "_law_pool" 1 ["script", "budget"] (spPool K))
    (c_law_draw : Cal P w K mg base "_law_draw" 1 ["pool", "size"] (spD K (ct_draw)))
    (c_law_problem : Cal P w K mg base "_law_problem" 3 ["pool", "most", "hards", "softs", "weight"] (spD K (ct_prob)))
    (c_law_doubled : Cal P w K mg base "_law_doubled" 2 ["pool", "count", "hard", "soft"] (spD K (ct_dbl)))
    (c_Problem : ICal P w K mg base "Problem" CProblem 3 ["self", "count", "hard", "soft"] (spD K (ct_Problem CProblem)))
    (c_Model : ICal P w K mg base "Model" CModel 3 ["self", "names", "rules", "costs"] (spD K (ct_Model CModel)))
    (c_Program : ICal P w K mg base "Program" CProgram 3 ["self", "count", "rows", "costs"] (spD K (ct_Program CProgram)))
    (c_law_as_term : Cal P w K mg base "_law_as_term" 1 ["clause"] (spD K (ct_term)))
    (c_Problem_payer : MCal P w K mg base CProblem "payer" 1 ["self", "at"] (spD K (ct_payer CProblem)))
    (c_Problem_base : MCal P w K mg base CProblem "base" 2 ["self"] (spD K (ct_base CProblem)))
    (c_Problem_whole_price : MCal P w K mg base CProblem "whole_price" 1 ["self"] (spD K (ct_whole CProblem)))
    (c_law_base : Cal P w K mg base "_law_base" 1 ["count", "hard", "soft"] (spD K (ct_lbase)))
    (c_law_same : Cal P w K mg base "_law_same" 6 ["actual", "due"] (spD K (ct_same 6)))
    (c_law_rows : Cal P w K mg base "_law_rows" 1 ["count"] (spD K (ct_rows)))
    (c_law_holds : Cal P w K mg base "_law_holds" 1 ["clause", "values"] (spD K (ct_holds)))
    (c_price_of : Cal P w K mg base "price_of" 3 ["problem", "values"] (spD K (ct_price CProblem)))
    (c_second_price : Cal P w K mg base "second_price" 1 ["problem", "seconds", "values"] (spD K (ct_second CProblem)))
    (c_prices_of : Cal P w K mg base "prices_of" 2 ["problem", "lists", "values"] (spD K (ct_pricesOf CProblem)))
    (c_Program_cost : MCal P w K mg base CProgram "cost" 3 ["self", "values"] (spD K (ct_pcost CProgram)))
    (c_Model_price : MCal P w K mg base CModel "price" 4 ["self", "values"] (spD K (ct_mprice CModel)))
    (c_unpaid : Cal P w K mg base "unpaid" 3 ["problem", "values"] (spD K (ct_unpaid CProblem)))
    (c_full_values : Cal P w K mg base "full_values" 4 ["problem", "values"] (spD K (ct_full CProblem)))
    (c_broken : Cal P w K mg base "broken" 3 ["problem", "values"] (spD K (ct_broken CProblem)))
    (c_Model_keeps : MCal P w K mg base CModel "keeps" 4 ["self", "values"] (spD K (ct_mkeeps CModel)))
    (c_priced : Cal P w K mg base "priced" 4 ["problem", "values"] (spD K (ct_priced CProblem)))
    (c_priced_right : Cal P w K mg base "priced_right" 4 ["claim"] (spD K (ct_prR CProblem)))
    (c_law_good : Cal P w K mg base "_law_good" 2 ["hard", "values"] (spD K (ct_good)))
    (c_law_price : Cal P w K mg base "_law_price" 2 ["soft", "values"] (spD K (ct_lprice)))
    (c_cheapest_of : Cal P w K mg base "cheapest_of" 4 ["problem", "rows"] (spD K (ct_cheapest CProblem)))
    : FnOk P w K mg base CX0 12 f fd ["script"] (spD K (ct_law)) := by
  refine okD F sc_law (fun S R h => ?_) fun cdv A outer s H E hr => ?_
  · obtain ⟨ns, rfl, hR⟩ := h; rfl
  have hu1 := hu1_of hr; have hu64 := hu64_of hr; have hu65 := hu65_of hr
  refine ⟨_, (by exact (pss_cons (by exact (ps_set (i := 1) sc_law.nd rfl (Or.inr rfl) (by exact (pe_cal c_law_pool (hr.mono (by first | decide | omega)) (by rfl) (by exact (pa_cons (by exact (pv 0)) (by exact (pa_cons (by exact pe_int) pa_nil (by rfl))) (by rfl)))))))
      (by exact (pss_cons (by exact (ps_asg (by exact (pe_cal c_law_problem (hr.mono (by first | decide | omega)) (by rfl) (by exact (pa_cons (by exact (pv 1)) (by exact (pa_cons (by exact pe_int) (by exact (pa_cons (by exact pe_int) (by exact (pa_cons (by exact pe_int) (by exact (pa_cons (by exact pe_int) pa_nil (by rfl))) (by rfl))) (by rfl))) (by rfl))) (by rfl))))) (by exact (k_tup (K := K) (n := 3) rfl rfl (by exact (pgs_cons (by exact (pg_name (i := 2) sc_law.nd rfl (Or.inr rfl))) (by exact (pgs_cons (by exact (pg_name (i := 3) sc_law.nd rfl (Or.inl rfl))) (by exact (pgs_cons (by exact (pg_name (i := 4) sc_law.nd rfl (Or.inl rfl))) pgs_nil)))))) (by rfl) (by rfl)))))
      (by exact (pss_cons (by exact (ps_set (i := 5) sc_law.nd rfl (Or.inr rfl) (by exact (pe_cal c_law_doubled (hr.mono (by first | decide | omega)) (by rfl) (by exact (pa_cons (by exact (pv 1)) (by exact (pa_cons (by exact (pv 2)) (by exact (pa_cons (by exact (pv 3)) (by exact (pa_cons (by exact (pv 4)) pa_nil (by rfl))) (by rfl))) (by rfl))) (by rfl)))))))
      (by exact (pss_cons (by exact (ps_set (i := 6) sc_law.nd rfl (Or.inr rfl) (by exact (pe_ical c_Problem (hr.mono (by first | decide | omega)) (by rfl) (by exact (pa_cons (by exact (k_sub (K := K) rfl hu1 (by exact (pv 5)) (by exact pe_int) (fun _ _ => rfl) (fun _ _ => rfl))) (by exact (pa_cons (by exact (k_sub (K := K) rfl hu1 (by exact (pv 5)) (by exact pe_int) (fun _ _ => rfl) (fun _ _ => rfl))) (by exact (pa_cons (by exact (k_sub (K := K) rfl hu1 (by exact (pv 5)) (by exact pe_int) (fun _ _ => rfl) (fun _ _ => rfl))) pa_nil (by rfl))) (by rfl))) (by rfl)))))))
      (by exact (pss_cons (by exact (ps_set (i := 7) sc_law.nd rfl (Or.inl rfl) (by exact (k_callB (kr_len (K := K) rfl) (by rfl) T.n_len (by decide +kernel) (by exact (pa_cons (by exact (k_sub (K := K) rfl hu1 (by exact (pv 5)) (by exact pe_int) (fun _ _ => rfl) (fun _ _ => rfl))) pa_nil (by rfl))) (by decide) (by decide) (by rfl) (by rfl)))))
      (by exact (pss_cons (by exact (ps_asg (by exact (pe_tup (by exact (pa_cons (by exact (pe_lc (own := [("clause", 10), ("weight", 11)]) rfl sc_law.nd (by exact (k_sq (K := K) rfl (by exact (k_sub (K := K) rfl hu1 (by exact (pv 5)) (by exact pe_int) (fun _ _ => rfl) (fun _ _ => rfl))))) (blkOk_by (own := [("clause", 10), ("weight", 11)]) (by kernel_rfl)) (by intros; exact (by exact (k_tup (K := K) (n := 2) rfl rfl (by exact (pgs_cons (by exact (pg_name (i := 10) sc_law.nd rfl (Or.inl rfl))) (by exact (pgs_cons (by exact (pg_name (i := 11) sc_law.nd rfl (Or.inl rfl))) pgs_nil)))) (by rfl) (by rfl)))) (by intros; exact pts_nil) (by intros; exact (by exact (pv 11))) (by intro _; rfl))) (by exact (pa_cons (by exact (k_rep (by exact (pe_lst (by exact (pa_cons (by exact pe_int) pa_nil (by rfl))))) (by exact (pv 7)))) pa_nil (by rfl))) (by rfl))))) (by exact (k_tup (K := K) (n := 2) rfl rfl (by exact (pgs_cons (by exact (pg_name (i := 8) sc_law.nd rfl (Or.inr rfl))) (by exact (pgs_cons (by exact (pg_name (i := 9) sc_law.nd rfl (Or.inl rfl))) pgs_nil)))) (by rfl) (by rfl)))))
      (by exact (pss_cons (by exact (ps_set (i := 12) sc_law.nd rfl (Or.inr rfl) (by exact (pe_lc (own := [("k", 13)]) rfl sc_law.nd (by exact (pi_range1 rfl T.n_range (by exact (pa_cons (by exact (pv 2)) pa_nil (by rfl))))) (blkOk_by (own := [("k", 13)]) (by kernel_rfl)) (by intros; exact (by exact (pg_name (i := 13) sc_law.nd rfl (Or.inl rfl)))) (by intros; exact pts_nil) (by intros; exact (by exact (k_add (K := K) rfl (by exact pe_str) (by exact (k_callTy cr_strI (by rfl) T.n_str (by decide +kernel) (by exact (pa_cons (by exact (k_add (K := K) rfl (by exact (pv 13)) (by exact pe_int))) pa_nil (by rfl))) (by decide) (by decide) (by rfl) (by rfl)))))) (by intro _; rfl)))))
      (by exact (pss_cons (by exact (ps_set (i := 14) sc_law.nd rfl (Or.inl rfl) (by exact (pe_ical c_Model (hr.mono (by first | decide | omega)) (by rfl) (by exact (pa_cons (by exact (pv 12)) (by exact (pa_cons (by exact (pe_lc (own := [("clause", 10)]) rfl sc_law.nd (by exact (k_sq (K := K) rfl (by exact (k_sub (K := K) rfl hu1 (by exact (pv 5)) (by exact pe_int) (fun _ _ => rfl) (fun _ _ => rfl))))) (blkOk_by (own := [("clause", 10)]) (by kernel_rfl)) (by intros; exact (by exact (pg_name (i := 10) sc_law.nd rfl (Or.inl rfl)))) (by intros; exact pts_nil) (by intros; exact (by exact (pe_cal c_law_as_term (hr.mono (by first | decide | omega)) (by rfl) (by exact (pa_cons (by exact (pv 10)) pa_nil (by rfl)))))) (by intro _; rfl))) (by exact (pa_cons (by exact (pe_lc (own := [("clause", 10), ("weight", 11)]) rfl sc_law.nd (by exact (k_sq (K := K) rfl (by exact (k_sub (K := K) rfl hu1 (by exact (pv 5)) (by exact pe_int) (fun _ _ => rfl) (fun _ _ => rfl))))) (blkOk_by (own := [("clause", 10), ("weight", 11)]) (by kernel_rfl)) (by intros; exact (by exact (k_tup (K := K) (n := 2) rfl rfl (by exact (pgs_cons (by exact (pg_name (i := 10) sc_law.nd rfl (Or.inl rfl))) (by exact (pgs_cons (by exact (pg_name (i := 11) sc_law.nd rfl (Or.inl rfl))) pgs_nil)))) (by rfl) (by rfl)))) (by intros; exact pts_nil) (by intros; exact (by exact (pe_tup (by exact (pa_cons (by exact (pv 11)) (by exact (pa_cons (by exact pe_bl) (by exact (pa_cons (by exact (pe_cal c_law_as_term (hr.mono (by first | decide | omega)) (by rfl) (by exact (pa_cons (by exact (pv 10)) pa_nil (by rfl))))) pa_nil (by rfl))) (by rfl))) (by rfl)))))) (by intro _; rfl))) pa_nil (by rfl))) (by rfl))) (by rfl)))))))
      (by exact (pss_cons (by exact (ps_set (i := 15) sc_law.nd rfl (Or.inl rfl) (by exact (pe_ical c_Program (hr.mono (by first | decide | omega)) (by rfl) (by exact (pa_cons (by exact (k_add (K := K) rfl (by exact (pv 2)) (by exact (pv 7)))) (by exact (pa_cons (by exact (pe_lst pa_nil)) (by exact (pa_cons (by exact (pe_lc (own := [("k", 13)]) rfl sc_law.nd (by exact (pi_range1 rfl T.n_range (by exact (pa_cons (by exact (pv 7)) pa_nil (by rfl))))) (blkOk_by (own := [("k", 13)]) (by kernel_rfl)) (by intros; exact (by exact (pg_name (i := 13) sc_law.nd rfl (Or.inl rfl)))) (by intros; exact pts_nil) (by intros; exact (by exact (pe_tup (by exact (pa_cons (by exact (k_add (K := K) rfl (by exact (k_add (K := K) rfl (by exact (pv 2)) (by exact pe_int))) (by exact (pv 13)))) (by exact (pa_cons (by exact (k_sub (K := K) rfl hu1 (by exact (pv 8)) (by exact (pv 13)) (fun _ _ => rfl) (fun _ _ => rfl))) pa_nil (by rfl))) (by rfl)))))) (by intro _; rfl))) pa_nil (by rfl))) (by rfl))) (by rfl)))))))
      (by exact (pss_cons (by exact (ps_if (by exact (pt_not (by exact (k_tr (K := K) rfl (by exact (pe_cal c_law_same (hr.mono (by first | decide | omega)) (by rfl) (by exact (pa_cons (by exact (pe_lc (own := [("k", 13)]) rfl sc_law.nd (by exact (pi_range1 rfl T.n_range (by exact (pa_cons (by exact (pv 7)) pa_nil (by rfl))))) (blkOk_by (own := [("k", 13)]) (by kernel_rfl)) (by intros; exact (by exact (pg_name (i := 13) sc_law.nd rfl (Or.inl rfl)))) (by intros; exact pts_nil) (by intros; exact (by exact (pe_mcal (by exact (pv 6)) T.cl_Problem c_Problem_payer (hr.mono (by first | decide | omega)) (by exact (pa_cons (by exact (pv 13)) pa_nil (by rfl)))))) (by intro _; rfl))) (by exact (pa_cons (by exact (pe_listRg rfl (by rfl) T.n_list (prg_2 (by rfl) T.n_range (by exact (k_add (K := K) rfl (by exact (pv 2)) (by exact pe_int))) (by exact (k_add (K := K) rfl (by exact (k_add (K := K) rfl (by exact (pv 2)) (by exact (pv 7)))) (by exact pe_int)))))) pa_nil (by rfl))) (by rfl))))) (fun _ => rfl))))) (by exact (pss_one (by exact (ps_ret (by exact pe_bl))))) pss_nil))
      (by exact (pss_cons (by exact (ps_if (by exact (PW.pt (by exact (by exact (pw_or (by exact (pt_not (by exact (k_tr (K := K) rfl (by exact (pe_cal c_law_same (hr.mono (by first | decide | omega)) (by rfl) (by exact (pa_cons (by exact (pe_mcal0 (by exact (pv 6)) T.cl_Problem c_Problem_base (hr.mono (by first | decide | omega)))) (by exact (pa_cons (by exact (pe_cal c_law_base (hr.mono (by first | decide | omega)) (by rfl) (by exact (pa_cons (by exact (k_sub (K := K) rfl hu1 (by exact (pv 5)) (by exact pe_int) (fun _ _ => rfl) (fun _ _ => rfl))) (by exact (pa_cons (by exact (k_sub (K := K) rfl hu1 (by exact (pv 5)) (by exact pe_int) (fun _ _ => rfl) (fun _ _ => rfl))) (by exact (pa_cons (by exact (k_sub (K := K) rfl hu1 (by exact (pv 5)) (by exact pe_int) (fun _ _ => rfl) (fun _ _ => rfl))) pa_nil (by rfl))) (by rfl))) (by rfl))))) pa_nil (by rfl))) (by rfl))))) (fun _ => rfl))))) (by exact (pw_or1 (by exact (pt_not (by exact (k_tr (K := K) rfl (by exact (pe_cal c_law_same (hr.mono (by first | decide | omega)) (by rfl) (by exact (pa_cons (by exact (pe_mcal0 (by exact (pv 6)) T.cl_Problem c_Problem_whole_price (hr.mono (by first | decide | omega)))) (by exact (pa_cons (by exact (k_callB (kr_sum (K := K) rfl rfl) (by rfl) T.n_sum (by decide +kernel) (by exact (pa_cons (by exact (pv 8)) pa_nil (by rfl))) (by decide) (by decide) (by rfl) (by rfl))) pa_nil (by rfl))) (by rfl))))) (fun _ => rfl)))))))))))) (by exact (pss_one (by exact (ps_ret (by exact pe_bl))))) pss_nil))
      (by exact (pss_cons (by exact (ps_for PassesOwn.never rfl (by exact (k_sq (K := K) rfl (by exact (pe_cal c_law_rows (hr.mono (by first | decide | omega)) (by rfl) (by exact (pa_cons (by exact (pv 2)) pa_nil (by rfl))))))) (by exact (pg_name (i := 16) sc_law.nd rfl (Or.inr rfl))) (by exact (pss_cons (by exact (ps_set (i := 17) sc_law.nd rfl (Or.inr rfl) (by exact (pe_lc (own := [("k", 13)]) rfl sc_law.nd (by exact (pi_range1 rfl T.n_range (by exact (pa_cons (by exact (pv 7)) pa_nil (by rfl))))) (blkOk_by (own := [("k", 13)]) (by kernel_rfl)) (by intros; exact (by exact (pg_name (i := 13) sc_law.nd rfl (Or.inl rfl)))) (by intros; exact pts_one (by exact (pt_not (by exact (k_tr (K := K) rfl (by exact (pe_cal c_law_holds (hr.mono (by first | decide | omega)) (by rfl) (by exact (pa_cons (by exact (k_sub (K := K) rfl hu1 (by exact (k_sub (K := K) rfl hu1 (by exact (k_sub (K := K) rfl hu1 (by exact (pv 5)) (by exact pe_int) (fun _ _ => rfl) (fun _ _ => rfl))) (by exact (pv 13)) (fun _ _ => rfl) (fun _ _ => rfl))) (by exact pe_int) (fun _ _ => rfl) (fun _ _ => rfl))) (by exact (pa_cons (by exact (pv 16)) pa_nil (by rfl))) (by rfl))))) (fun _ => rfl)))))) (by intros; exact (by exact (pv 13))) (by intro _; rfl)))))
      (by exact (pss_cons (by exact (ps_setLc (i := 18) (own := [("k", 13)]) rfl sc_law.nd rfl rfl (sw_true rfl rfl rfl (by decide +kernel)) (by exact (pi_range1 rfl T.n_range (by exact (pa_cons (by exact (k_callB (kr_len (K := K) rfl) (by rfl) T.n_len (by decide +kernel) (by exact (pa_cons (by exact (k_sub (K := K) rfl hu1 (by exact (pv 5)) (by exact pe_int) (fun _ _ => rfl) (fun _ _ => rfl))) pa_nil (by rfl))) (by decide) (by decide) (by rfl) (by rfl))) pa_nil (by rfl))))) (blkOk_by (own := [("k", 13)]) (by kernel_rfl)) (by intros; exact (by exact (pg_name (i := 13) sc_law.nd rfl (Or.inl rfl)))) (by intros; exact pts_one (by exact (pt_not (by exact (k_tr (K := K) rfl (by exact (pe_cal c_law_holds (hr.mono (by first | decide | omega)) (by rfl) (by exact (pa_cons (by exact (k_sub (K := K) rfl hu1 (by exact (k_sub (K := K) rfl hu1 (by exact (pv 5)) (by exact pe_int) (fun _ _ => rfl) (fun _ _ => rfl))) (by exact (pv 13)) (fun _ _ => rfl) (fun _ _ => rfl))) (by exact (pa_cons (by exact (pv 16)) pa_nil (by rfl))) (by rfl))))) (fun _ => rfl)))))) (by intros; exact (by exact (pv 13)))))
      (by exact (pss_cons (by exact (ps_set (i := 19) sc_law.nd rfl (Or.inl rfl) (by exact (k_callB (kr_sum (K := K) rfl rfl) (by rfl) T.n_sum (by decide +kernel) (by exact (pa_cons (by exact (pe_lc (own := [("k", 13)]) rfl sc_law.nd (by exact (k_sq (K := K) rfl (by exact (pv 17)))) (blkOk_by (own := [("k", 13)]) (by kernel_rfl)) (by intros; exact (by exact (pg_name (i := 13) sc_law.nd rfl (Or.inl rfl)))) (by intros; exact pts_nil) (by intros; exact (by exact (k_sub (K := K) rfl hu1 (by exact (pv 8)) (by exact (pv 13)) (fun _ _ => rfl) (fun _ _ => rfl)))) (by intro _; rfl))) pa_nil (by rfl))) (by decide) (by decide) (by rfl) (by rfl)))))
      (by exact (pss_cons (by exact (ps_set (i := 20) sc_law.nd rfl (Or.inl rfl) (by exact (k_add (K := K) rfl (by exact (pv 16)) (by exact (k_tupleOf (K := K) rfl (by rfl) T.n_tuple (by exact (pe_lc (own := [("k", 13)]) rfl sc_law.nd (by exact (pi_range1 rfl T.n_range (by exact (pa_cons (by exact (pv 7)) pa_nil (by rfl))))) (blkOk_by (own := [("k", 13)]) (by kernel_rfl)) (by intros; exact (by exact (pg_name (i := 13) sc_law.nd rfl (Or.inl rfl)))) (by intros; exact pts_nil) (by intros; exact (by exact (k_callTy cr_intU (by rfl) T.n_int (by decide +kernel) (by exact (pa_cons (by exact (k_in (K := K) rfl hu65 (by exact (pv 13)) (by exact (pv 17)) (by rfl))) pa_nil (by rfl))) (by decide) (by decide) (by rfl) (by rfl)))) (by intro _; rfl))) (by rfl)))))))
      (by exact (pss_cons (by exact (ps_set (i := 21) sc_law.nd rfl (Or.inl rfl) (by exact (k_callTy (kr_dictP (K := K) rfl rfl) (by rfl) T.n_dict (by decide +kernel) (by exact (pa_cons (by exact (pe_lc (own := [("k", 13)]) rfl sc_law.nd (by exact (pi_range1 rfl T.n_range (by exact (pa_cons (by exact (pv 2)) pa_nil (by rfl))))) (blkOk_by (own := [("k", 13)]) (by kernel_rfl)) (by intros; exact (by exact (pg_name (i := 13) sc_law.nd rfl (Or.inl rfl)))) (by intros; exact pts_nil) (by intros; exact (by exact (pe_tup (by exact (pa_cons (by exact (k_sub (K := K) rfl hu1 (by exact (pv 12)) (by exact (pv 13)) (fun _ _ => rfl) (fun _ _ => rfl))) (by exact (pa_cons (by exact (k_sub (K := K) rfl hu1 (by exact (pv 16)) (by exact (pv 13)) (fun _ _ => rfl) (fun _ _ => rfl))) pa_nil (by rfl))) (by rfl)))))) (by intro _; rfl))) pa_nil (by rfl))) (by decide) (by decide) (by rfl) (by rfl)))))
      (by exact (pss_cons (by exact (ps_set (i := 22) sc_law.nd rfl (Or.inl rfl) (by exact (pe_lst (by exact (pa_cons (by exact (pe_cal c_price_of (hr.mono (by first | decide | omega)) (by rfl) (by exact (pa_cons (by exact (pv 6)) (by exact (pa_cons (by exact (pv 16)) pa_nil (by rfl))) (by rfl))))) (by exact (pa_cons (by exact (pe_cal c_second_price (hr.mono (by first | decide | omega)) (by rfl) (by exact (pa_cons (by exact (pv 6)) (by exact (pa_cons (by exact (pv 8)) (by exact (pa_cons (by exact (pv 16)) pa_nil (by rfl))) (by rfl))) (by rfl))))) (by exact (pa_cons (by exact (k_sub (K := K) rfl hu1 (by exact (pe_cal c_prices_of (hr.mono (by first | decide | omega)) (by rfl) (by exact (pa_cons (by exact (pv 6)) (by exact (pa_cons (by exact (pe_tup (by exact (pa_cons (by exact (pv 9)) (by exact (pa_cons (by exact (pv 8)) pa_nil (by rfl))) (by rfl))))) (by exact (pa_cons (by exact (pv 16)) pa_nil (by rfl))) (by rfl))) (by rfl))))) (by exact pe_int) (fun _ _ => rfl) (fun _ _ => rfl))) pa_nil (by rfl))) (by rfl))) (by rfl)))))))
      (by exact (pss_cons (by exact (ps_set (i := 22) sc_law.nd rfl (Or.inl rfl) (by exact (k_add (K := K) rfl (by exact (pv 22)) (by exact (pe_lst (by exact (pa_cons (by exact (pe_mcal (by exact (pv 15)) T.cl_Program c_Program_cost (hr.mono (by first | decide | omega)) (by exact (pa_cons (by exact (pv 20)) pa_nil (by rfl))))) (by exact (pa_cons (by exact (pe_mcal (by exact (pv 14)) T.cl_Model c_Model_price (hr.mono (by first | decide | omega)) (by exact (pa_cons (by exact (pv 21)) pa_nil (by rfl))))) (by exact (pa_cons (by exact (k_callB (kr_sum (K := K) rfl rfl) (by rfl) T.n_sum (by decide +kernel) (by exact (pa_cons (by exact (pe_lc (own := [("k", 13)]) rfl sc_law.nd (by exact (k_sq (K := K) rfl (by exact (pe_cal c_unpaid (hr.mono (by first | decide | omega)) (by rfl) (by exact (pa_cons (by exact (pv 6)) (by exact (pa_cons (by exact (pv 16)) pa_nil (by rfl))) (by rfl))))))) (blkOk_by (own := [("k", 13)]) (by kernel_rfl)) (by intros; exact (by exact (pg_name (i := 13) sc_law.nd rfl (Or.inl rfl)))) (by intros; exact pts_nil) (by intros; exact (by exact (k_sub (K := K) rfl hu1 (by exact (pv 8)) (by exact (pv 13)) (fun _ _ => rfl) (fun _ _ => rfl)))) (by intro _; rfl))) pa_nil (by rfl))) (by decide) (by decide) (by rfl) (by rfl))) pa_nil (by rfl))) (by rfl))) (by rfl)))))))))
      (by exact (pss_cons (by exact (ps_if (by exact (PW.pt (by exact (by exact (pw_or (by exact (pt_not (by exact (k_tr (K := K) rfl (by exact (pe_cal c_law_same (hr.mono (by first | decide | omega)) (by rfl) (by exact (pa_cons (by exact (pv 22)) (by exact (pa_cons (by exact (k_rep (by exact (pe_lst (by exact (pa_cons (by exact (pv 19)) pa_nil (by rfl))))) (by exact pe_int))) pa_nil (by rfl))) (by rfl))))) (fun _ => rfl))))) (by exact (pw_or (by exact (pt_not (by exact (k_tr (K := K) rfl (by exact (pe_cal c_law_same (hr.mono (by first | decide | omega)) (by rfl) (by exact (pa_cons (by exact (pe_cal c_unpaid (hr.mono (by first | decide | omega)) (by rfl) (by exact (pa_cons (by exact (pv 6)) (by exact (pa_cons (by exact (pv 16)) pa_nil (by rfl))) (by rfl))))) (by exact (pa_cons (by exact (pv 17)) pa_nil (by rfl))) (by rfl))))) (fun _ => rfl))))) (by exact (pw_or1 (by exact (pt_not (by exact (k_tr (K := K) rfl (by exact (pe_cal c_law_same (hr.mono (by first | decide | omega)) (by rfl) (by exact (pa_cons (by exact (pe_cal c_full_values (hr.mono (by first | decide | omega)) (by rfl) (by exact (pa_cons (by exact (pv 6)) (by exact (pa_cons (by exact (pv 16)) pa_nil (by rfl))) (by rfl))))) (by exact (pa_cons (by exact (pv 20)) pa_nil (by rfl))) (by rfl))))) (fun _ => rfl)))))))))))))) (by exact (pss_one (by exact (ps_ret (by exact pe_bl))))) pss_nil))
      (by exact (pss_cons (by exact (ps_if (by exact (pt_not (by exact (k_tr (K := K) rfl (by exact (pe_cal c_law_same (hr.mono (by first | decide | omega)) (by rfl) (by exact (pa_cons (by exact (pe_cal c_prices_of (hr.mono (by first | decide | omega)) (by rfl) (by exact (pa_cons (by exact (pv 6)) (by exact (pa_cons (by exact (pe_tup (by exact (pa_cons (by exact (pv 9)) (by exact (pa_cons (by exact (pv 8)) (by exact (pa_cons (by exact (k_rep (by exact (pe_lst (by exact (pa_cons (by exact pe_int) pa_nil (by rfl))))) (by exact (pv 7)))) pa_nil (by rfl))) (by rfl))) (by rfl))))) (by exact (pa_cons (by exact (pv 16)) pa_nil (by rfl))) (by rfl))) (by rfl))))) (by exact (pa_cons (by exact (pe_tup (by exact (pa_cons (by exact (k_callB (kr_len (K := K) rfl) (by rfl) T.n_len (by decide +kernel) (by exact (pa_cons (by exact (pv 17)) pa_nil (by rfl))) (by decide) (by decide) (by rfl) (by rfl))) (by exact (pa_cons (by exact (pv 19)) (by exact (pa_cons (by exact pe_int) pa_nil (by rfl))) (by rfl))) (by rfl))))) pa_nil (by rfl))) (by rfl))))) (fun _ => rfl))))) (by exact (pss_one (by exact (ps_ret (by exact pe_bl))))) pss_nil))
      (by exact (pss_cons (by exact (ps_if (by exact (PW.pt (by exact (by exact (pw_or (by exact (pt_not (by exact (k_tr (K := K) rfl (by exact (pe_cal c_law_same (hr.mono (by first | decide | omega)) (by rfl) (by exact (pa_cons (by exact (pe_cal c_broken (hr.mono (by first | decide | omega)) (by rfl) (by exact (pa_cons (by exact (pv 6)) (by exact (pa_cons (by exact (pv 16)) pa_nil (by rfl))) (by rfl))))) (by exact (pa_cons (by exact (k_sub (K := K) rfl hu1 (by exact (k_add (K := K) rfl (by exact (pv 18)) (by exact (pe_lst (by exact (pa_cons (by exact pe_non) pa_nil (by rfl))))))) (by exact pe_int) (fun _ _ => rfl) (fun _ _ => rfl))) pa_nil (by rfl))) (by rfl))))) (fun _ => rfl))))) (by exact (pw_or1 (by exact (pt_not (by exact (k_tr (K := K) rfl (by exact (pe_cal c_law_same (hr.mono (by first | decide | omega)) (by rfl) (by exact (pa_cons (by exact (pe_mcal (by exact (pv 14)) T.cl_Model c_Model_keeps (hr.mono (by first | decide | omega)) (by exact (pa_cons (by exact (pv 21)) pa_nil (by rfl))))) (by exact (pa_cons (by exact (k_eq (K := K) rfl hu64 (by exact (pv 18)) (by exact (pe_lst pa_nil)))) pa_nil (by rfl))) (by rfl))))) (fun _ => rfl)))))))))))) (by exact (pss_one (by exact (ps_ret (by exact pe_bl))))) pss_nil))
      (by exact (pss_cons (by exact (ps_set (i := 23) sc_law.nd rfl (Or.inl rfl) (by exact (pe_cal c_priced (hr.mono (by first | decide | omega)) (by rfl) (by exact (pa_cons (by exact (pv 6)) (by exact (pa_cons (by exact (pv 16)) pa_nil (by rfl))) (by rfl)))))))
      (by exact (pss_cons (by exact (ps_set (i := 24) sc_law.nd rfl (Or.inl rfl) (by exact (pe_tup (by exact (pa_cons (by exact pe_str) (by exact (pa_cons (by exact (pv 19)) pa_nil (by rfl))) (by rfl)))))))
      (by exact (pss_cons (by exact (ps_if (by exact (kt_ne (K := K) rfl hu64 (by exact (pv 18)) (by exact (pe_lst pa_nil)))) (by exact (pss_one (by exact (ps_set (i := 24) sc_law.nd rfl (Or.inl rfl) (by exact (pe_tup (by exact (pa_cons (by exact pe_str) (by exact (pa_cons (by exact (k_sub (K := K) rfl hu1 (by exact (pv 18)) (by exact pe_int) (fun _ _ => rfl) (fun _ _ => rfl))) pa_nil (by rfl))) (by rfl))))))))) pss_nil))
      (by exact (pss_cons (by exact (ps_if (by exact (PW.pt (by exact (by exact (pw_or (by exact (kt_ne (K := K) rfl hu64 (by exact (pe_tup (by exact (pa_cons (by exact (k_sub (K := K) rfl hu1 (by exact (pv 23)) (by exact pe_int) (fun _ _ => rfl) (fun _ _ => rfl))) (by exact (pa_cons (by exact (k_sub (K := K) rfl hu1 (by exact (pv 23)) (by exact pe_int) (fun _ _ => rfl) (fun _ _ => rfl))) pa_nil (by rfl))) (by rfl))))) (by exact (pv 24)))) (by exact (pw_or (by exact (kt_ne (K := K) rfl hu64 (by exact (k_sub (K := K) rfl hu1 (by exact (pv 23)) (by exact pe_int) (fun _ _ => rfl) (fun _ _ => rfl))) (by exact (pv 16)))) (by exact (pw_or1 (by exact (pt_cmpR or_notU (by exact (pe_cal c_priced_right (hr.mono (by first | decide | omega)) (by rfl) (by exact (pa_cons (by exact (pv 23)) pa_nil (by rfl))))) (by exact pe_bl) (nomark _)))))))))))) (by exact (pss_one (by exact (ps_ret (by exact pe_bl))))) pss_nil))
      (by exact (pss_one (by exact (ps_for PassesOwn.never rfl (by exact (pi_range2 rfl T.n_range (by exact (pa_cons (by exact (pe_op op_sub (by exact pe_int) (by exact pe_int))) (by exact (pa_cons (by exact (k_add (K := K) rfl (by exact (k_callB (kr_len (K := K) rfl) (by rfl) T.n_len (by decide +kernel) (by exact (pa_cons (by exact (k_sub (K := K) rfl hu1 (by exact (pv 5)) (by exact pe_int) (fun _ _ => rfl) (fun _ _ => rfl))) pa_nil (by rfl))) (by decide) (by decide) (by rfl) (by rfl))) (by exact pe_int))) pa_nil (by rfl))) (by rfl))))) (by exact (pg_name (i := 25) sc_law.nd rfl (Or.inl rfl))) (by exact (pss_one (by exact (ps_if (by exact (pt_not (by exact (k_tr (K := K) rfl (by exact (pe_cal c_law_same (hr.mono (by first | decide | omega)) (by rfl) (by exact (pa_cons (by exact (pe_cal c_priced_right (hr.mono (by first | decide | omega)) (by rfl) (by exact (pa_cons (by exact (pe_tup (by exact (pa_cons (by exact pe_str) (by exact (pa_cons (by exact (pv 6)) (by exact (pa_cons (by exact (pv 16)) (by exact (pa_cons (by exact (pv 25)) pa_nil (by rfl))) (by rfl))) (by rfl))) (by rfl))))) pa_nil (by rfl))))) (by exact (pa_cons (by exact (k_in (K := K) rfl hu65 (by exact (pv 25)) (by exact (pv 18)) (by rfl))) pa_nil (by rfl))) (by rfl))))) (fun _ => rfl))))) (by exact (pss_one (by exact (ps_ret (by exact pe_bl))))) pss_nil))))))))))))))))))))))))))))))))))))))
      (by exact (pss_cons (by exact (ps_setLc (i := 26) (own := [("k", 13)]) rfl sc_law.nd rfl rfl (sw_true rfl rfl rfl (by decide +kernel)) (by exact (pi_range1 rfl T.n_range (by exact (pa_cons (by exact (pe_cal c_law_draw (hr.mono (by first | decide | omega)) (by rfl) (by exact (pa_cons (by exact (pv 1)) (by exact (pa_cons (by exact pe_int) pa_nil (by rfl))) (by rfl))))) pa_nil (by rfl))))) (blkOk_by (own := [("k", 13)]) (by kernel_rfl)) (by intros; exact (by exact (pg_name (i := 13) sc_law.nd rfl (Or.inl rfl)))) (by intros; exact pts_nil) (by intros; exact (by exact (k_sub (K := K) rfl hu1 (by exact (pe_cal c_law_rows (hr.mono (by first | decide | omega)) (by rfl) (by exact (pa_cons (by exact (pv 2)) pa_nil (by rfl))))) (by exact (pe_cal c_law_draw (hr.mono (by first | decide | omega)) (by rfl) (by exact (pa_cons (by exact (pv 1)) (by exact (pa_cons (by exact (k_callB (kr_len (K := K) rfl) (by rfl) T.n_len (by decide +kernel) (by exact (pa_cons (by exact (pe_cal c_law_rows (hr.mono (by first | decide | omega)) (by rfl) (by exact (pa_cons (by exact (pv 2)) pa_nil (by rfl))))) pa_nil (by rfl))) (by decide) (by decide) (by rfl) (by rfl))) pa_nil (by rfl))) (by rfl))))) (fun _ _ => rfl) (fun _ _ => rfl))))))
      (by exact (pss_cons (by exact (ps_set (i := 26) sc_law.nd rfl (Or.inl rfl) (by exact (k_add (K := K) rfl (by exact (pv 26)) (by exact (k_slice (K := K) rfl (by exact (pv 26)) po_none (by exact (po_some (by exact pe_int)))))))))
      (by exact (pss_cons (by exact (ps_setLc (i := 27) (own := [("row", 28)]) rfl sc_law.nd rfl rfl (sw_true rfl rfl rfl (by decide +kernel)) (by exact (k_sq (K := K) rfl (by exact (pv 26)))) (blkOk_by (own := [("row", 28)]) (by kernel_rfl)) (by intros; exact (by exact (pg_name (i := 28) sc_law.nd rfl (Or.inl rfl)))) (by intros; exact pts_one (by exact (k_tr (K := K) rfl (by exact (pe_cal c_law_good (hr.mono (by first | decide | omega)) (by rfl) (by exact (pa_cons (by exact (k_sub (K := K) rfl hu1 (by exact (pv 5)) (by exact pe_int) (fun _ _ => rfl) (fun _ _ => rfl))) (by exact (pa_cons (by exact (pv 28)) pa_nil (by rfl))) (by rfl))))) (fun _ => rfl)))) (by intros; exact (by exact (pv 28)))))
      (by exact (pss_cons (by exact (ps_setLc (i := 22) (own := [("row", 28)]) rfl sc_law.nd rfl rfl (sw_true rfl rfl rfl (by decide +kernel)) (by exact (k_sq (K := K) rfl (by exact (pv 27)))) (blkOk_by (own := [("row", 28)]) (by kernel_rfl)) (by intros; exact (by exact (pg_name (i := 28) sc_law.nd rfl (Or.inl rfl)))) (by intros; exact pts_nil) (by intros; exact (by exact (pe_cal c_law_price (hr.mono (by first | decide | omega)) (by rfl) (by exact (pa_cons (by exact (k_sub (K := K) rfl hu1 (by exact (pv 5)) (by exact pe_int) (fun _ _ => rfl) (fun _ _ => rfl))) (by exact (pa_cons (by exact (pv 28)) pa_nil (by rfl))) (by rfl))))))))
      (by exact (pss_cons (by exact (ps_set (i := 24) sc_law.nd rfl (Or.inl rfl) (by exact pe_non)))
      (by exact (pss_cons (by exact (ps_if (by exact (kt_ne (K := K) rfl hu64 (by exact (pv 27)) (by exact (pe_lst pa_nil)))) (by exact (pss_one (by exact (ps_set (i := 24) sc_law.nd rfl (Or.inl rfl) (by exact (k_sub (K := K) rfl hu1 (by exact (pv 27)) (by exact (pe_bm PySem.F.plainAttrs_list PySem.F.slot_list_index PySem.F.type_list_index mt_index (by exact (pv 22)) (by exact (pa_cons (by exact (k_callB (kr_min (K := K) rfl rfl) (by rfl) T.n_min (by decide +kernel) (by exact (pa_cons (by exact (pv 22)) pa_nil (by rfl))) (by decide) (by decide) (by rfl) (by rfl))) pa_nil (by rfl))))) (fun _ _ => rfl) (fun _ _ => rfl))))))) pss_nil))
      (by exact (pss_one (by exact (ps_ret (by exact (pe_cal c_law_same (hr.mono (by first | decide | omega)) (by rfl) (by exact (pa_cons (by exact (pe_cal c_cheapest_of (hr.mono (by first | decide | omega)) (by rfl) (by exact (pa_cons (by exact (pv 6)) (by exact (pa_cons (by exact (pv 26)) pa_nil (by rfl))) (by rfl))))) (by exact (pa_cons (by exact (pv 24)) pa_nil (by rfl))) (by rfl))))))))))))))))))))))))))))))))))))))))))))), fun S R h => ?_⟩
  clear hu1 hu64 hu65 hr F T
  obtain ⟨ns, rfl, hR⟩ := h
  refine ⟨[], by decide, fun i hi => (by cases hi), ?_⟩
  refine st_imp (show slot0 _ [M.q ns] = [M.q ns, .no, .no, .no, .no, .no, .no, .no, .no, .no, .no, .no, .no, .no, .no, .no, .no, .no, .no, .no, .no, .no, .no, .no, .no, .no, .no, .no, .no] from rfl) ?_
  refine st_seq (st_seto (by decide) (evo_pool rfl ?_))
  show StN K [] _ [M.q ns, .o (.lst [.lst (ns.map D.int), .int 0, .int 0, .int 1, .int 0, .int 0]), .no, .no, .no, .no, .no, .no, .no, .no, .no, .no, .no, .no, .no, .no, .no, .no, .no, .no, .no, .no, .no, .no, .no, .no, .no, .no, .no] _
  refine st_close (i := 1) (φ := PoolD) rfl ⟨ns, 0, 0, 1, 0, rfl, by decide⟩ ?_
  show StN K [] _ [M.q ns, .e PoolD, .no, .no, .no, .no, .no, .no, .no, .no, .no, .no, .no, .no, .no, .no, .no, .no, .no, .no, .no, .no, .no, .no, .no, .no, .no, .no, .no] _
  refine' st_seq (st_asg (vs := [2, 3, 4]) (by decide) (evn_poolC (φ := PoolD) rfl (ds := [.int 5, .int 4, .int 4, .int 5]) ?a1 ⟨5, 4, 4, 5, rfl, by decide, by decide, by decide, by decide, by decide, by decide, fun p0 pb0 => ⟨_, ?a2, ?a3⟩⟩))
  case a1 => walk_at "ev"
  case a2 => walk_at "gt"
  case a3 =>
  show StN K [] _ [M.q ns, .e PoolD, .d (.int p0.count), .d (.tup (p0.hard.map clD)), .d (.tup (p0.soft.map softD)), .no, .no, .no, .no, .no, .no, .no, .no, .no, .no, .no, .no, .no, .no, .no, .no, .no, .no, .no, .no, .no, .no, .no, .no] _
  refine' st_seq (st_set (by decide) (evn_poolC (φ := PoolD) rfl (ds := [.int p0.count, .tup (p0.hard.map clD), .tup (p0.soft.map softD)]) ?b1 ⟨5, 4, 4, 5, p0, rfl, pb0, by decide, by decide, by decide, fun p pb ec => ?b2⟩))
  case b1 => walk_at "ev"
  case b2 =>
  rw [← ec]
  show StN K [] _ [M.q ns, .e PoolD, .d (.int p.count), .d (.tup (p0.hard.map clD)), .d (.tup (p0.soft.map softD)), .d (problemD p), .no, .no, .no, .no, .no, .no, .no, .no, .no, .no, .no, .no, .no, .no, .no, .no, .no, .no, .no, .no, .no, .no, .no] _
  have ok : PbOk p := pb.ok (by decide) (by decide) (by decide) (by decide)
  have n5 := pb.cnt; have n1 := pb.c1; have hl := pb.hl; have sl := pb.sl
  have sl2 : p.soft.length ≤ 50000 := by omega
  have hl2 : p.hard.length ≤ 50000 := by omega
  refine' st_seq (st_seto (by decide) (evo_make (arn_p (d := .int p.count) ?c1 (arn_p (d := .tup (p.hard.map clD)) ?c2 (arn_p (d := .tup (p.soft.map softD)) ?c3 (arn_nil ⟨(by simp [arChk, arOne, slots, ndB, Ar.slot?, M.own, arV, List.filterMap_cons, rdB_o, rdB_b, rdB_d]), p, _, _, _, _, rfl, rfl, rfl, .t, .t, ok, rfl, _, _, rfl, ?c4⟩))))))
  case c1 => walk_at "ev"
  case c2 => walk_at "ev"
  case c3 => walk_at "ev"
  case c4 =>
  refine st_frz (i := 6) rfl rfl (by decide) ?_
  show StN K [] _ [M.q ns, .e PoolD, .d (.int p.count), .d (.tup (p0.hard.map clD)), .d (.tup (p0.soft.map softD)), .d (problemD p), .d (probD CProblem p), .no, .no, .no, .no, .no, .no, .no, .no, .no, .no, .no, .no, .no, .no, .no, .no, .no, .no, .no, .no, .no, .no] _
  refine' st_seq (st_setP (d := .int (p.soft.length : Nat)) (by decide) (EvP.is (d := .int ((p.soft.map softD).length : Nat)) ?d1 (by rw [List.length_map])) ?d2)
  case d1 => walk_at "ev"
  case d2 =>
  show StN K [] _ [M.q ns, .e PoolD, .d (.int p.count), .d (.tup (p0.hard.map clD)), .d (.tup (p0.soft.map softD)), .d (problemD p), .d (probD CProblem p), .d (.int (p.soft.length : Nat)), .no, .no, .no, .no, .no, .no, .no, .no, .no, .no, .no, .no, .no, .no, .no, .no, .no, .no, .no, .no, .no] _
  have wl : (wts p).length = p.soft.length := by simp [wts]
  refine' st_seq (st_asg (vs := [8, 9]) (by decide) (EvP.n (d := .tup [intsD (wts p), intsD (List.replicate p.soft.length 1)]) (evp_tup (app_cons ?e1 (app_cons ?e2 app_nil)) (le_rt rfl)) ⟨_, ?e3, ?e4⟩))
  case e1 =>
    refine' EvF.p (EvF.is (evf_lcA (xs := p.soft) (f := softD) (r := fun s => .int s.2) ?e5 sl2 ?e6) (by unfold wts intsD; rw [List.map_map]; rfl))
    case e5 => walk_at "wk"
    case e6 =>
      intro s hs
      refine ⟨_, gt_pair, ?_⟩
      walk_at "ev"
  case e2 =>
    refine' EvF.p (EvF.is (evf_op (x := .lst [.int 1]) (y := .int (p.soft.length : Nat)) ?e7 ?e8 (v_rep (by omega) (by simp; omega))) ?e9)
    case e7 => walk_at "ev"
    case e8 => walk_at "ev"
    case e9 => rw [rep1, Int.toNat_natCast]; simp
  case e3 => walk_at "gt"
  case e4 =>
  show StN K [] _ [M.q ns, .e PoolD, .d (.int p.count), .d (.tup (p0.hard.map clD)), .d (.tup (p0.soft.map softD)), .d (problemD p), .d (probD CProblem p), .d (.int (p.soft.length : Nat)), .d (intsD (wts p)), .d (intsD (List.replicate p.soft.length 1)), .no, .no, .no, .no, .no, .no, .no, .no, .no, .no, .no, .no, .no, .no, .no, .no, .no, .no, .no] _
  refine' st_seq (st_setP (d := namesL p.count) (by decide) (EvF.p (EvF.is (evf_lcA (xs := List.range p.count) (f := fun i => .int (i : Nat)) (r := fun (i : Nat) => .str (nmI ((i : Int) + 1))) ?f1 ?f2 ?f3) (by unfold namesL nmL; rw [List.map_map]; rfl))) ?f4)
  case f1 => exact WkP.b (wkp_rngM (by walk_at "ev") (by omega))
  case f2 => rw [List.length_range]; omega
  case f3 =>
    intro i hi
    have hi' := List.mem_range.mp hi
    refine ⟨_, gt_name, ?_⟩
    unfold nmI
    refine' evp_op evp_str.b (EvP.b (evp_cb (EvP.b (evp_op ?f5 ?f6 v_add)) (v_stri (nm_log (by omega))))) (v_adds (nm_len (by omega)))
    case f5 => walk_at "ev"
    case f6 => walk_at "ev"
  case f4 =>
  show StN K [] _ [M.q ns, .e PoolD, .d (.int p.count), .d (.tup (p0.hard.map clD)), .d (.tup (p0.soft.map softD)), .d (problemD p), .d (probD CProblem p), .d (.int (p.soft.length : Nat)), .d (intsD (wts p)), .d (intsD (List.replicate p.soft.length 1)), .no, .no, .d (namesL p.count), .no, .no, .no, .no, .no, .no, .no, .no, .no, .no, .no, .no, .no, .no, .no, .no] _
  have cl5 : ∀ c ∈ p.hard, ClOk 5 c := fun c hc => (ok.hard c hc).mono n5
  have sl5 : ∀ s ∈ p.soft, ClOk 5 s.1 := fun s hs => (ok.soft s hs).1.mono n5
  refine' st_seq (st_seto (by decide) (evo_make (arn_p (d := namesL p.count) ?g1 (arn_p (d := .lst (p.hard.map termD)) ?g2 (arn_p (d := .lst (p.soft.map costD)) ?g3 (arn_nil ⟨(by simp [arChk, arOne, slots, ndB, Ar.slot?, M.own, arV, List.filterMap_cons, rdB_o, rdB_b, rdB_d]), p, _, _, _, rfl, rfl, rfl, rfl, ok, n5, rfl, _, _, rfl, ?g4⟩))))))
  case g1 => walk_at "ev"
  case g2 =>
    refine' EvF.p (evf_lcA (xs := p.hard) (f := clD) (r := termD) ?g5 hl2 ?g6)
    case g5 => walk_at "wk"
    case g6 =>
      intro c hc
      have := cl5 c hc
      refine ⟨_, gt_name, ?_⟩
      walk_at "ev"
  case g3 =>
    refine' EvF.p (evf_lcA (xs := p.soft) (f := softD) (r := costD) ?g7 sl2 ?g8)
    case g7 => walk_at "wk"
    case g8 =>
      intro s hs
      have := sl5 s hs
      refine ⟨_, gt_pair, ?_⟩
      unfold costD
      walk_at "ev"
  case g4 =>
  refine st_frz (i := 14) rfl rfl (by decide) ?_
  show StN K [] _ [M.q ns, .e PoolD, .d (.int p.count), .d (.tup (p0.hard.map clD)), .d (.tup (p0.soft.map softD)), .d (problemD p), .d (probD CProblem p), .d (.int (p.soft.length : Nat)), .d (intsD (wts p)), .d (intsD (List.replicate p.soft.length 1)), .no, .no, .d (namesL p.count), .no, .d (modD CModel p), .no, .no, .no, .no, .no, .no, .no, .no, .no, .no, .no, .no, .no, .no] _
  have cost_ok : ∀ q ∈ costs p, LitOk (p.count + p.soft.length) q.1 ∧ 1 ≤ q.2 ∧ q.2 ≤ 1000000000 := fun q hq => by
    obtain ⟨k, hk, rfl⟩ := List.mem_map.mp hq
    have hk' := List.mem_range.mp hk
    have hs := ok.soft _ (List.getElem_mem hk')
    have e : (wts p).getD k 0 = p.soft[k].2 := by
      unfold wts; rw [List.getD_eq_getElem?_getD, List.getElem?_map, List.getElem?_eq_getElem hk']; rfl
    refine ⟨⟨by show ((p.count : Int) + 1 + k) ≠ 0; omega, by show ((p.count : Int) + 1 + k).natAbs ≤ _; omega⟩, ?_⟩
    show 1 ≤ (wts p).getD k 0 ∧ (wts p).getD k 0 ≤ _
    rw [e]; exact hs.2
  have cost_nd : ((costs p).map fun q => ((q.1.natAbs : Nat) : Int)).Nodup := by
    unfold costs List.Nodup
    rw [List.map_map, List.pairwise_map]
    refine (List.nodup_range (n := p.soft.length)).imp ?_
    intro a b h z
    have z' : (((((p.count : Int) + 1 + a).natAbs : Nat) : Int)) = ((((p.count : Int) + 1 + b).natAbs : Nat) : Int) := z
    omega
  have cost_len : (costs p).length = p.soft.length := by simp [costs]
  refine' st_seq (st_seto (by decide) (evo_make (arn_p (d := .int ((p.count + p.soft.length : Nat) : Int)) ?h1 (arn_p (d := .lst []) ?h2 (arn_p (d := .lst ((costs p).map wtD)) ?h3 (arn_nil ⟨(by simp [arChk, arOne, slots, ndB, Ar.slot?, M.own, arV, List.filterMap_cons, rdB_o, rdB_b, rdB_d]), p.count + p.soft.length, costs p, _, _, rfl, rfl, rfl, by omega, by omega, cost_ok, cost_nd, rfl, _, _, rfl, ?h4⟩))))))
  case h1 => exact EvP.is (d := .int ((p.count : Int) + (p.soft.length : Nat))) (by walk_at "ev") (by congr 1)
  case h2 => walk_at "ev"
  case h3 =>
    refine' EvF.p (EvF.is (evf_lcA (xs := List.range p.soft.length) (f := fun i => .int (i : Nat)) (r := fun (k : Nat) => wtD ((p.count : Int) + 1 + k, (wts p).getD k 0)) ?h5 ?h6 ?h7) (by unfold costs; rw [List.map_map]; rfl))
    case h5 => exact WkP.b (wkp_rngM (by walk_at "ev") (by omega))
    case h6 => rw [List.length_range]; omega
    case h7 =>
      intro k hk
      have hk' := List.mem_range.mp hk
      have hat : atI ((wts p).map D.int) ((k : Nat) : Int) = some (.int ((wts p).getD k 0)) := atI_nat (by rw [List.getElem?_map, List.getD_eq_getElem?_getD, List.getElem?_eq_getElem (show k < (wts p).length by omega)]; rfl)
      refine ⟨_, gt_name, ?_⟩
      unfold wtD
      walk_at "ev"
  case h4 =>
  refine st_frz (i := 15) rfl rfl (by decide) ?_
  show StN K [] _ (LS CProblem CModel CProgram ns p0 p .no .no .no .no .no .no .no .no .no .no .no .no) _
  have probS : ∀ {S : List M}, S[6]? = some (M.d (probD CProblem p)) → EvP K (tVar 6) S (probD CProblem p) := fun h => evp_var h
  -- the payers
  refine' st_seq (st_ifP (b := false) (tst_same (d := .lst ((List.range p.soft.length).map fun (k : Nat) => .int ((p.count : Int) + 1 + k))) ?i1 ?i2 (sm_lst (fun _ _ => sm_int _ _) (by rw [List.length_range]; omega))) (fun z => by cases z) fun _ => st_nil ?i3)
  case i1 =>
    refine' EvF.p (evf_lcA (xs := List.range p.soft.length) (f := fun i => .int (i : Nat)) (r := fun (k : Nat) => .int ((p.count : Int) + 1 + k)) ?i4 ?i5 ?i6)
    case i4 => exact WkP.b (wkp_rngM (by walk_at "ev") (by omega))
    case i5 => rw [List.length_range]; omega
    case i6 =>
      intro k hk
      refine ⟨_, gt_name, ?_⟩
      walk_at "ev"
  case i2 =>
    refine' EvF.p (EvF.is (evf_listRg (a := (p.count : Int) + 1) (b := (p.count : Int) + (p.soft.length : Nat) + 1) ?i7 ?i8 (RgOk.of_le (by omega) (by omega) (by omega) (by omega))) ?i9)
    case i7 => walk_at "ev"
    case i8 => walk_at "ev"
    case i9 =>
      have e : ((p.count : Int) + (p.soft.length : Nat) + 1 - ((p.count : Int) + 1)).toNat = p.soft.length := by omega
      rw [e]; rfl
  case i3 =>
  have base_sm : Sm 6 (.lst ((baseOf p).map clD)) := sm_lst (fun c hc => sm_tup (fun _ _ => sm_int _ _) (by
    unfold baseOf at hc
    rcases List.mem_append.mp hc with h | h
    · have := (ok.hard c h).len; omega
    · obtain ⟨q, hq, rfl⟩ := List.mem_map.mp h
      have hq2 := (ok.soft q.1 (List.fst_mem_of_mem_zipIdx hq)).1.len
      rw [List.length_append, List.length_singleton]; omega)) (by unfold baseOf; simp; omega)
  refine' st_seq (st_ifP (b := false || false) (tpp_or (tst_same (d := .lst ((baseOf p).map clD)) ?j1 ?j2 base_sm) fun _ => tst_same (d := .int (wholeP p)) ?j3 ?j4 (sm_int _ _)) (fun z => by cases z) fun _ => st_nil ?j5)
  case j1 => walk_at "ev"
  case j2 => walk_at "ev"
  case j3 => walk_at "ev"
  case j4 =>
    refine' evp_cb (x := .lst (p.soft.map fun s => .int s.2)) (EvP.b (EvP.is (d := intsD (wts p)) ?j6 ?j7)) v_sum
    case j6 => walk_at "ev"
    case j7 => unfold wts intsD; rw [List.map_map]; rfl
  case j5 =>
  refine' st_seq (st_forT (vs := [16]) (xs := rows p.count) (f := clD) (fun pre S' => ∃ (a16 a17 a18 a19 a20 a21 a22 a23 a24 a25 : M), S' = LS CProblem CModel CProgram ns p0 p a16 a17 a18 a19 a20 a21 a22 a23 a24 a25 .no .no) ?k1 (by decide) ⟨_, _, _, _, _, _, _, _, _, _, rfl⟩ ?k2 ?k3)
  case k1 =>
    refine' wkp_lst ?k4
    case k4 => walk_at "ev"
  case k2 =>
    rintro pre v post S' e ⟨a16, a17, a18, a19, a20, a21, a22, a23, a24, a25, rfl⟩
    have hv : Val p.count v := rows_val _ _ (by rw [e]; simp)
    clear e
    refine ⟨_, gt_name, ?_⟩
    show StN K [] _ (LS CProblem CModel CProgram ns p0 p (.d (clD v)) a17 a18 a19 a20 a21 a22 a23 a24 a25 .no .no) _
    have vl := hv.len
    have litS := ok.litS hv
    have litH := ok.lit hv
    have lenS := ok.lenS
    have lenH := ok.len
    have softAt : ∀ k : Nat, k < p.soft.length → p.soft.getD k ([], 0) ∈ p.soft ∧ atI (p.soft.map softD) ((k : Nat) : Int) = some (softD (p.soft.getD k ([], 0))) := fun k hk => by
      rw [List.getD_eq_getElem?_getD, List.getElem?_eq_getElem hk]
      exact ⟨List.getElem_mem hk, atI_nat (by rw [List.getElem?_map, List.getElem?_eq_getElem hk]; rfl)⟩
    have hardAt : ∀ k : Nat, k < p.hard.length → p.hard.getD k [] ∈ p.hard ∧ atI (p.hard.map clD) ((k : Nat) : Int) = some (clD (p.hard.getD k [])) := fun k hk => by
      rw [List.getD_eq_getElem?_getD, List.getElem?_eq_getElem hk]
      exact ⟨List.getElem_mem hk, atI_nat (by rw [List.getElem?_map, List.getElem?_eq_getElem hk]; rfl)⟩
    have wtAt : ∀ k : Nat, k < p.soft.length → atI ((wts p).map D.int) ((k : Nat) : Int) = some (.int ((wts p).getD k 0)) := fun k hk => atI_nat (by rw [List.getElem?_map, List.getD_eq_getElem?_getD, List.getElem?_eq_getElem (show k < (wts p).length by omega)]; rfl)
    have unL : (unpaid p v).length ≤ p.soft.length := by
      rw [← lost_eq]; refine Nat.le_trans (List.length_filter_le _ _) ?_; rw [List.length_range]; exact Nat.le_refl _
    have baL : (badL p v).length ≤ p.hard.length := by
      refine Nat.le_trans (List.length_filter_le _ _) ?_; rw [List.length_range]; exact Nat.le_refl _
    -- lost
    refine' st_seq (st_setP (d := intsD ((unpaid p v).map fun j => ((j : Nat) : Int))) (by decide) (EvF.p (EvF.is (evf_lc (xs := List.range p.soft.length) (f := fun i => .int (i : Nat)) (r := fun k => .int (k : Nat)) (p := fun k => !holdsB (p.soft.getD k ([], 0)).1 v) ?l1 ?l2 ?l3) ?l4)) ?l5)
    case l1 => exact WkP.b (wkp_rngM (by walk_at "ev") (by omega))
    case l2 => rw [List.length_range]; omega
    case l3 =>
      intro k hk
      obtain ⟨hm, hat⟩ := softAt k (List.mem_range.mp hk)
      have h1 := litS _ hm
      have h2 := lenS _ hm
      refine ⟨_, gt_name, tpp_not (tpp_tr (d := .bl (holdsB (p.soft.getD k ([], 0)).1 v)) ?_ rfl), fun _ => by walk_at "ev"⟩
      refine' EvP.b (evp_call (arp_p (d := clD (p.soft.getD k ([], 0)).1) ?l6 (arp_p (d := clD v) ?l7 arp_nil)) rfl ⟨_, v, rfl, h1, h2, rfl⟩)
      case l6 => exact evp_ix (x := softD (p.soft.getD k ([], 0))) (y := .int 0) (EvP.b (evp_ix (x := .tup (p.soft.map softD)) (y := .int (k : Nat)) (EvP.b (evp_ix (x := problemD p) (y := .int 2) (by walk_at "ev") (by walk_at "ev") (v_ixt rfl))) (by walk_at "ev") (v_ixt hat))) (by walk_at "ev") (v_ixt rfl)
      case l7 => walk_at "ev"
    case l4 => rw [lost_eq]; unfold intsD; rw [List.map_map]; rfl
    case l5 =>
    show StN K [] _ (LS CProblem CModel CProgram ns p0 p (.d (clD v)) (.d (intsD ((unpaid p v).map fun j => ((j : Nat) : Int)))) a18 a19 a20 a21 a22 a23 a24 a25 .no .no) _
    -- bad
    refine' st_seq (st_setP (d := intsD ((badL p v).map fun j => ((j : Nat) : Int))) (by decide) (EvF.p (EvF.is (evf_lc (xs := List.range p.hard.length) (f := fun i => .int (i : Nat)) (r := fun k => .int (k : Nat)) (p := fun k => !holdsB (p.hard.getD k []) v) ?m1 ?m2 ?m3) ?m4)) ?m5)
    case m1 => exact WkP.b (wkp_rngM (EvP.b (EvP.is (d := .int ((p.hard.map clD).length : Nat)) (by walk_at "ev") (by rw [List.length_map]))) (by omega))
    case m2 => rw [List.length_range]; omega
    case m3 =>
      intro k hk
      obtain ⟨hm, hat⟩ := hardAt k (List.mem_range.mp hk)
      have h1 := litH _ hm
      have h2 := lenH _ hm
      refine ⟨_, gt_name, tpp_not (tpp_tr (d := .bl (holdsB (p.hard.getD k []) v)) ?_ rfl), fun _ => by walk_at "ev"⟩
      refine' EvP.b (evp_call (arp_p (d := clD (p.hard.getD k [])) ?m6 (arp_p (d := clD v) ?m7 arp_nil)) rfl ⟨_, v, rfl, h1, h2, rfl⟩)
      case m6 => exact evp_ix (x := .tup (p.hard.map clD)) (y := .int (k : Nat)) (EvP.b (evp_ix (x := problemD p) (y := .int 1) (by walk_at "ev") (by walk_at "ev") (v_ixt rfl))) (by walk_at "ev") (v_ixt hat)
      case m7 => walk_at "ev"
    case m4 => unfold intsD badL; rw [List.map_map]; rfl
    case m5 =>
    show StN K [] _ (LS CProblem CModel CProgram ns p0 p (.d (clD v)) (.d (intsD ((unpaid p v).map fun j => ((j : Nat) : Int)))) (.d (intsD ((badL p v).map fun j => ((j : Nat) : Int)))) a19 a20 a21 a22 a23 a24 a25 .no .no) _
    -- price
    have sumLost : ∀ {S : List M} {te : TE}, EvB K te S (intsD ((unpaid p v).map fun j => ((j : Nat) : Int))) → WkB K (iSq K te) S ((unpaid p v).map fun k => .int (k : Nat)) := fun h => wkb_is (wkb_lst h) (by rw [List.map_map]; rfl)
    refine' st_seq (st_setP (d := .int (price p v)) (by decide) (EvP.is (evp_cb (EvP.b (EvF.p (evf_lcA (xs := unpaid p v) (f := fun i => .int (i : Nat)) (r := fun k => .int ((wts p).getD k 0)) (sumLost ?n1) (by omega) ?n2))) v_sum) (by rw [price_lost])) ?n3)
    case n1 => walk_at "ev"
    case n2 =>
      intro k hk
      have hat := wtAt k (mem_unpaid.mp hk).1
      refine ⟨_, gt_name, ?_⟩
      walk_at "ev"
    case n3 =>
    show StN K [] _ (LS CProblem CModel CProgram ns p0 p (.d (clD v)) (.d (intsD ((unpaid p v).map fun j => ((j : Nat) : Int)))) (.d (intsD ((badL p v).map fun j => ((j : Nat) : Int)))) (.d (.int (price p v))) a20 a21 a22 a23 a24 a25 .no .no) _
    -- full
    refine' st_seq (st_setP (d := clD (fullV p v)) (by decide) (EvP.is (evp_op (x := clD v) (y := .tup ((List.range p.soft.length).map fun i => .int (b2i (decide (((i : Nat) : Int) ∈ (unpaid p v).map fun j => ((j : Nat) : Int)))))) ?o1 ?o2 (v_catt ?o3)) ?o4) ?o5)
    case o1 => walk_at "ev"
    case o3 => simp; omega
    case o4 => simp [fullV, clD, Function.comp_def]
    case o2 =>
      refine' EvP.b (evp_then (EvP.b (EvF.p (evf_lcA (xs := List.range p.soft.length) (f := fun i => .int (i : Nat)) ?o6 (by rw [List.length_range]; omega) ?o7))) v_tupl)
      case o6 => exact WkP.b (wkp_rngM (by walk_at "ev") (by omega))
      case o7 =>
        intro i hi
        refine ⟨_, gt_name, ?_⟩
        walk_at "ev"
    case o5 =>
    show StN K [] _ (LS CProblem CModel CProgram ns p0 p (.d (clD v)) (.d (intsD ((unpaid p v).map fun j => ((j : Nat) : Int)))) (.d (intsD ((badL p v).map fun j => ((j : Nat) : Int)))) (.d (.int (price p v))) (.d (clD (fullV p v))) a21 a22 a23 a24 a25 .no .no) _
    -- told
    refine' st_seq (st_seto (by decide) (evo_dictK (EvP.n (d := .lst (((List.range p.count).map fun (i : Nat) => (kN ((i : Int) + 1), D.int (v.getD i 0))).map keyP)) (EvF.p (EvF.is (evf_lcA (xs := List.range p.count) (f := fun i => .int (i : Nat)) (r := fun (i : Nat) => keyP (kN ((i : Int) + 1), D.int (v.getD i 0))) ?q1 ?q2 ?q3) (by rw [List.map_map]; rfl))) ⟨_, rfl, ?q4, ?q5⟩)))
    case q1 => exact WkP.b (wkp_rngM (by walk_at "ev") (by omega))
    case q2 => rw [List.length_range]; omega
    case q3 =>
      intro i hi
      have hi' := List.mem_range.mp hi
      have hn : atI ((nmL p.count).map D.str) ((i : Nat) : Int) = some (.str (nmI ((i : Int) + 1))) := atI_nat (by unfold nmL; rw [List.getElem?_map, List.getElem?_map, List.getElem?_range hi']; rfl)
      have hv' : atI (v.map D.int) ((i : Nat) : Int) = some (.int (v.getD i 0)) := atI_nat (by rw [List.getElem?_map, List.getD_eq_getElem?_getD, List.getElem?_eq_getElem (show i < v.length by omega)]; rfl)
      refine ⟨_, gt_name, ?_⟩
      show EvP K _ _ (.tup [.str (nmI ((i : Int) + 1)), .int (v.getD i 0)])
      walk_at "ev"
    case q4 =>
      rw [List.map_map]
      unfold List.Nodup
      rw [List.pairwise_map]
      refine (List.nodup_range (n := p.count)).imp_of_mem ?_
      intro a b ha hb h z
      have h1 := List.mem_range.mp ha
      have h2 := List.mem_range.mp hb
      have := nm_inj (by omega) (by omega) (Sum.inr.inj (show (Sum.inr (nmI ((a : Int) + 1)) : Key) = Sum.inr (nmI ((b : Int) + 1)) from z))
      omega
    case q5 =>
    have e1 : (((List.range p.count).map fun (i : Nat) => (kN ((i : Int) + 1), D.int (v.getD i 0))).map (·.1)) = toldK p.count := by rw [List.map_map]; rfl
    have e2 : (((List.range p.count).map fun (i : Nat) => (kN ((i : Int) + 1), D.int (v.getD i 0))).map (·.2)) = v.map D.int := by
      rw [List.map_map, ← vl]
      refine List.ext_getElem (by simp) fun i h1 h2 => ?_
      have hi : i < v.length := by simpa using h1
      simp [List.getD_eq_getElem?_getD, List.getElem?_eq_getElem hi]
    rw [e1, e2]
    clear e1 e2
    show StN K [] _ (LS CProblem CModel CProgram ns p0 p (.d (clD v)) (.d (intsD ((unpaid p v).map fun j => ((j : Nat) : Int)))) (.d (intsD ((badL p v).map fun j => ((j : Nat) : Int)))) (.d (.int (price p v))) (.d (clD (fullV p v))) (.o (.dk (toldK p.count) (v.map D.int))) a22 a23 a24 a25 .no .no) _
    have secP1 := secP_wts p v
    -- prices
    refine' st_seq (st_setP (d := .lst (List.replicate 3 (.int (price p v)))) (by decide) (EvF.p (evf_lst (ds := [.int (price p v), .int (price p v), .int (price p v)]) (app_cons ?r1 (app_cons ?r2 (app_cons ?r3 app_nil))) (le_rt rfl))) ?r4)
    case r1 => walk_at "ev"
    case r2 =>
      refine' EvP.is (d := .int (secP p (wts p) v)) ?r5 (by rw [secP1])
      case r5 => walk_at "ev"
    case r3 =>
      refine' EvP.is (d := .int (secP p (wts p) v)) (evp_ix (x := clD ([List.replicate p.soft.length 1, wts p].map fun ws => secP p ws v)) (y := .int 1) (EvP.b (evp_call (arp_p (d := probD CProblem p) ?r6 (arp_p (d := .tup ([List.replicate p.soft.length 1, wts p].map intsD)) ?r7 (arp_p (d := clD v) ?r8 arp_nil))) rfl ⟨p, [List.replicate p.soft.length 1, wts p], v, rfl, hv, ok, le_rt rfl, rfl⟩)) (by walk_at "ev") (v_ixt rfl)) (by rw [secP1])
      case r6 => walk_at "ev"
      case r7 => exact evp_tup (app_cons (by walk_at "ev") (app_cons (by walk_at "ev") app_nil)) (le_rt rfl)
      case r8 => walk_at "ev"
    case r4 =>
    show StN K [] _ (LS CProblem CModel CProgram ns p0 p (.d (clD v)) (.d (intsD ((unpaid p v).map fun j => ((j : Nat) : Int)))) (.d (intsD ((badL p v).map fun j => ((j : Nat) : Int)))) (.d (.int (price p v))) (.d (clD (fullV p v))) (.o (.dk (toldK p.count) (v.map D.int))) (.d (.lst (List.replicate 3 (.int (price p v))))) a23 a24 a25 .no .no) _
    refine' st_seq (st_setP (d := .lst (List.replicate 6 (.int (price p v)))) (by decide) (EvF.p (evf_op (x := .lst (List.replicate 3 (.int (price p v)))) (y := .lst [.int (price p v), .int (price p v), .int (price p v)]) ?s1 ?s2 (v_cat (le_rt rfl)))) ?s3)
    case s1 => walk_at "ev"
    case s2 =>
      refine' EvP.b (EvF.p (evf_lst (app_cons ?s4 (app_cons ?s5 (app_cons ?s6 app_nil))) (le_rt rfl)))
      case s4 =>
        refine' EvP.is (d := .int (wtB (costs p) (fullV p v))) (evp_methd (evp_var rfl) (by decide +kernel) (arp_p (d := clD (fullV p v)) ?s7 arp_nil) rfl ⟨_, costs p, fullV p v, rfl, by omega, fun q hq => by rw [full_len, vl]; exact (cost_ok q hq).1, rfl⟩) (by rw [wtB_full vl wtB (fun _ _ => rfl)])
        case s7 => walk_at "ev"
      case s5 => exact evp_methd (evp_var rfl) (by decide +kernel) (arp_b rfl rfl arp_nil) rfl ⟨p, v, _, _, rfl, rfl, rfl, hv, ok, n5, rfl⟩
      case s6 =>
        refine' EvP.is (evp_cb (EvP.b (EvF.p (evf_lcA (xs := unpaid p v) (f := fun i => .int (i : Nat)) (r := fun k => .int ((wts p).getD k 0)) ?s8 (by omega) ?s9))) v_sum) (by rw [price_lost])
        case s8 =>
          refine' wkb_lst (EvP.b ?s10)
          case s10 => walk_at "ev"
        case s9 =>
          intro k hk
          have hat := wtAt k (mem_unpaid.mp hk).1
          refine ⟨_, gt_name, ?_⟩
          walk_at "ev"
    case s3 =>
    show StN K [] _ (LS CProblem CModel CProgram ns p0 p (.d (clD v)) (.d (intsD ((unpaid p v).map fun j => ((j : Nat) : Int)))) (.d (intsD ((badL p v).map fun j => ((j : Nat) : Int)))) (.d (.int (price p v))) (.d (clD (fullV p v))) (.o (.dk (toldK p.count) (v.map D.int))) (.d (.lst (List.replicate 6 (.int (price p v))))) a23 a24 a25 .no .no) _
    -- the first check
    have fl := full_len p v
    refine' st_seq (st_ifP (b := false || (false || false)) (tpp_or (tst_same (d := .lst (List.replicate 6 (.int (price p v)))) ?t1 ?t2 ?t3) fun _ => tpp_or (tst_same (d := intsD ((unpaid p v).map fun j => ((j : Nat) : Int))) ?t4 ?t5 ?t6) fun _ => tst_same (d := clD (fullV p v)) ?t7 ?t8 ?t9) (fun z => by cases z) fun _ => st_nil ?t10)
    case t1 => walk_at "ev"
    case t2 => exact EvF.p (EvF.is (evf_op (x := .lst [.int (price p v)]) (y := .int 6) (by walk_at "ev") (by walk_at "ev") (v_rep (by decide) (le_rt rfl))) (by rw [rep1]; rfl))
    case t3 => exact sm_lst (xs := List.replicate 6 (price p v)) (f := D.int) (fun _ _ => sm_int _ _) (le_rt rfl)
    case t4 =>
      refine' EvP.is (d := .lst ((unpaid p v).map fun i => .int (i : Nat))) ?t11 (by unfold intsD; rw [List.map_map]; rfl)
      case t11 => walk_at "ev"
    case t5 => walk_at "ev"
    case t6 => exact sm_lst (fun _ _ => sm_int _ _) (by rw [List.length_map]; omega)
    case t7 => walk_at "ev"
    case t8 => walk_at "ev"
    case t9 => exact sm_tup (fun _ _ => sm_int _ _) (by omega)
    case t10 =>
    have zl : ∀ n : Nat, (List.replicate n (0 : Int)).map D.int = List.replicate n (.int 0) := fun n => by simp
    refine' st_seq (st_ifP (b := false) (tst_same (d := clD [((unpaid p v).length : Int), price p v, 0]) ?u1 ?u2 ?u3) (fun z => by cases z) fun _ => st_nil ?u4)
    case u1 =>
      refine' EvP.is (evp_call (d := clD ([List.replicate p.soft.length 1, wts p, List.replicate p.soft.length 0].map fun ws => secP p ws v)) (arp_p (d := probD CProblem p) ?u6 (arp_p (d := .tup ([List.replicate p.soft.length 1, wts p, List.replicate p.soft.length 0].map intsD)) ?u7 (arp_p (d := clD v) ?u8 arp_nil))) rfl ⟨p, [List.replicate p.soft.length 1, wts p, List.replicate p.soft.length 0], v, rfl, hv, ok, le_rt rfl, rfl⟩) (by
        show clD [secP p (List.replicate p.soft.length 1) v, secP p (wts p) v, secP p (List.replicate p.soft.length 0) v] = _
        rw [secP_one, secP_wts, secP_zero])
      case u6 => walk_at "ev"
      case u7 =>
        refine' evp_tup (app_cons ?u9 (app_cons ?u10 (app_cons ?u11 app_nil))) (le_rt rfl)
        case u9 => walk_at "ev"
        case u10 => walk_at "ev"
        case u11 =>
          refine' EvF.p (EvF.is (evf_op (x := .lst [.int 0]) (y := .int (p.soft.length : Nat)) ?u12 ?u13 (v_rep (by omega) (by simp; omega))) ?u14)
          case u12 => walk_at "ev"
          case u13 => walk_at "ev"
          case u14 => rw [rep1, Int.toNat_natCast]; unfold intsD; rw [zl]
      case u8 => walk_at "ev"
    case u2 =>
      refine' EvP.is (d := .tup [.int (((unpaid p v).map fun j => ((j : Nat) : Int)).map D.int).length, .int (price p v), .int 0]) ?u15 (by rw [List.length_map, List.length_map]; rfl)
      case u15 => walk_at "ev"
    case u3 => exact sm_tup (fun _ _ => sm_int _ _) (le_rt rfl)
    case u4 =>
    have cast_nil : decide ((badL p v).map (fun j => ((j : Nat) : Int)) = []) = goodB p.hard v := by
      rw [← bad_nil]
      exact decide_eq_decide.mpr List.map_eq_nil_iff
    have badI : (badL p v).map (fun j => D.int (j : Nat)) = ((badL p v).map fun j => ((j : Nat) : Int)).map D.int := by rw [List.map_map]; rfl
    have bg := bad_get p v
    rw [badI] at bg
    refine' st_seq (st_ifP (b := false || false) (tpp_or (tst_same (d := optI (brk p v)) ?v1 ?v2 (sm_optI _ _)) fun _ => tst_same (d := .bl (goodB p.hard v)) ?v3 ?v4 (sm_bl _ _)) (fun z => by cases z) fun _ => st_nil ?v5)
    case v1 => walk_at "ev"
    case v2 =>
      refine' evp_ix (x := .lst (((badL p v).map fun j => ((j : Nat) : Int)).map D.int ++ [.non])) (y := .int 0) (EvP.b (EvF.p (evf_op ?v6 ?v7 (v_cat (by simp; omega))))) ?v8 (v_ixl bg)
      case v6 => walk_at "ev"
      case v7 => walk_at "ev"
      case v8 => walk_at "ev"
    case v3 => exact evp_methd (evp_var rfl) (by decide +kernel) (arp_b rfl rfl arp_nil) rfl ⟨p, v, _, _, rfl, rfl, rfl, hv, ok, n5, rfl⟩
    case v4 =>
      refine' EvP.is (evp_op (x := intsD ((badL p v).map fun j => ((j : Nat) : Int))) (y := intsD []) ?v9 ?v10 (v_eqT (emb_lst emb_int) (by decide))) (by rw [cast_nil])
      case v9 => walk_at "ev"
      case v10 => exact EvP.b (EvP.is (d := .lst []) (by walk_at "ev") rfl)
    case v5 =>
    refine' st_seq (st_setP (d := prD CProblem p v) (by decide) ?w1 ?w2)
    case w1 => exact evp_call (by walk_at "ar") rfl ⟨p, v, rfl, hv, ok, rfl⟩
    case w2 =>
    show StN K [] _ (LS CProblem CModel CProgram ns p0 p (.d (clD v)) (.d (intsD ((unpaid p v).map fun j => ((j : Nat) : Int)))) (.d (intsD ((badL p v).map fun j => ((j : Nat) : Int)))) (.d (.int (price p v))) (.d (clD (fullV p v))) (.o (.dk (toldK p.count) (v.map D.int))) (.d (.lst (List.replicate 6 (.int (price p v))))) (.d (prD CProblem p v)) a24 a25 .no .no) _
    refine' st_seq (st_setP (d := .tup [.str "priced", .int (price p v)]) (by decide) ?w3 ?w4)
    case w3 => walk_at "ev"
    case w4 =>
    show StN K [] _ (LS CProblem CModel CProgram ns p0 p (.d (clD v)) (.d (intsD ((unpaid p v).map fun j => ((j : Nat) : Int)))) (.d (intsD ((badL p v).map fun j => ((j : Nat) : Int)))) (.d (.int (price p v))) (.d (clD (fullV p v))) (.o (.dk (toldK p.count) (v.map D.int))) (.d (.lst (List.replicate 6 (.int (price p v))))) (.d (prD CProblem p v)) (.d (.tup [.str "priced", .int (price p v)])) a25 .no .no) _
    refine' st_seqA (α := Unit) (fun _ => (LS CProblem CModel CProgram ns p0 p (.d (clD v)) (.d (intsD ((unpaid p v).map fun j => ((j : Nat) : Int)))) (.d (intsD ((badL p v).map fun j => ((j : Nat) : Int)))) (.d (.int (price p v))) (.d (clD (fullV p v))) (.o (.dk (toldK p.count) (v.map D.int))) (.d (.lst (List.replicate 6 (.int (price p v))))) (.d (prD CProblem p v)) (.d (dueD p v)) a25 .no .no)) (fun _ => True) ?rest ?first
    case first =>
      intro rest
      refine' st_ifP (b := !decide ((badL p v).map (fun j => ((j : Nat) : Int)) = [])) ?x1 (fun hb => ?x2) fun hb => ?x3
      case x1 =>
        refine' tpp_test (evp_op (x := intsD ((badL p v).map fun j => ((j : Nat) : Int))) (y := intsD []) ?x4 ?x5 (v_neT (emb_lst emb_int) (by decide)))
        case x4 => walk_at "ev"
        case x5 => exact EvP.b (EvP.is (d := .lst []) (by walk_at "ev") rfl)
      case x3 =>
        have e : dueD p v = .tup [.str "priced", .int (price p v)] := by
          have h0 : badL p v = [] := by
            cases q : badL p v with
            | nil => rfl
            | cons i l => rw [q] at hb; simp at hb
          unfold dueD; rw [brk_bad, h0]; rfl
        have r := rest () trivial
        rw [e] at r
        exact st_nil r
      case x2 =>
        obtain ⟨i, l, h0⟩ : ∃ i l, badL p v = i :: l := by
          cases q : badL p v with
          | nil => rw [q] at hb; simp at hb
          | cons i l => exact ⟨i, l, rfl⟩
        have e : dueD p v = .tup [.str "breaks", .int (i : Nat)] := by
          unfold dueD; rw [brk_bad, h0]; rfl
        have r := rest () trivial
        rw [e] at r
        have hat : atI (((badL p v).map fun j => ((j : Nat) : Int)).map D.int) 0 = some (.int (i : Nat)) := by rw [h0]; exact atI_nat (j := 0) rfl
        refine' st_setP (d := .tup [.str "breaks", .int (i : Nat)]) (by decide) ?x6 r
        case x6 => walk_at "ev"
    case rest =>
    intro _ _
    have claim_ : ∀ {S : List M} {te : TE} , EvP K te S (prD CProblem p v) → EvP K (tTup (tCons (orE (tOp (rIx K) te (tC (.int 0))) (tDGet te (tC (.int 0)))) (tCons (orE (tOp (rIx K) te (tC (.int 3))) (tDGet te (tC (.int 3)))) tNil))) S (dueD p v) ∧ EvP K (orE (tOp (rIx K) te (tC (.int 2))) (tDGet te (tC (.int 2)))) S (clD v) := fun {S te} h => by
      unfold prD at h
      unfold dueD
      cases hbk : brk p v with
      | none =>
        rw [hbk] at h
        exact ⟨evp_tup (app_cons (evp_ix (EvP.b h) (by walk_at "ev") (v_ixt rfl)) (app_cons (evp_ix (EvP.b h) (by walk_at "ev") (v_ixt rfl)) app_nil)) (le_rt rfl), evp_ix (EvP.b h) (by walk_at "ev") (v_ixt rfl)⟩
      | some i =>
        rw [hbk] at h
        exact ⟨evp_tup (app_cons (evp_ix (EvP.b h) (by walk_at "ev") (v_ixt rfl)) (app_cons (evp_ix (EvP.b h) (by walk_at "ev") (v_ixt rfl)) app_nil)) (le_rt rfl), evp_ix (EvP.b h) (by walk_at "ev") (v_ixt rfl)⟩
    refine' st_seq (st_ifP (b := false || (!decide (v = v) || !decide (true = true))) (tpp_or (tpp_test (evp_op (x := dueD p v) (y := dueD p v) (EvP.b (claim_ ?y1).1) ?y2 (v_ne_due p v))) fun _ => tpp_or (tpp_test (evp_op (x := clD v) (y := clD v) (EvP.b (claim_ ?y3).2) ?y4 (v_neT (emb_tup emb_int) (by decide)))) fun _ => tpp_test (evp_op (x := .bl true) (y := .bl true) ?y5 (EvP.b evp_bl) v_isnB)) (fun z => by simp at z) fun _ => st_nil ?y6)
    case y1 => exact evp_var rfl
    case y2 => walk_at "ev"
    case y3 => exact evp_var rfl
    case y4 => walk_at "ev"
    case y5 =>
      refine' EvP.b (evp_call (arp_p (d := prD CProblem p v) (evp_var rfl) arp_nil) rfl ⟨p, v, _, rfl, hv, ok, ?_⟩)
      unfold prD
      cases hbk : brk p v with
      | none => exact .inr ⟨rfl, rfl, rfl⟩
      | some i =>
        refine .inl ⟨(i : Nat), rfl, ?_⟩
        have hi : i ∈ badL p v := by
          rw [brk_bad] at hbk
          exact List.mem_of_head? hbk
        rw [← bad_at, decide_eq_true (mem_cast.mpr hi)]
    case y6 =>
    refine' st_forT (vs := [25]) (xs := List.range (((p.hard.length : Int) + 1) - (0 - 1)).toNat) (f := fun i => .int (0 - 1 + (i : Nat))) (fun pre S' => ∃ b25 : M, S' = (LS CProblem CModel CProgram ns p0 p (.d (clD v)) (.d (intsD ((unpaid p v).map fun j => ((j : Nat) : Int)))) (.d (intsD ((badL p v).map fun j => ((j : Nat) : Int)))) (.d (.int (price p v))) (.d (clD (fullV p v))) (.o (.dk (toldK p.count) (v.map D.int))) (.d (.lst (List.replicate 6 (.int (price p v))))) (.d (prD CProblem p v)) (.d (dueD p v)) b25 .no .no)) ?z1 (by decide) ⟨_, rfl⟩ ?z2 ?z3
    case z1 =>
      refine' wkp_rng2M ?z4 ?z5 ⟨by omega, by omega, by omega, by omega⟩
      case z4 => walk_at "ev"
      case z5 =>
        refine' EvP.b (EvP.is (d := .int (((p.hard.map clD).length : Nat) + 1)) ?z6 (by rw [List.length_map]))
        case z6 => walk_at "ev"
    case z2 =>
      rintro pre i post S' e ⟨b25, rfl⟩
      refine ⟨_, gt_name, ?_⟩
      show StN K [] _ (LS CProblem CModel CProgram ns p0 p (.d (clD v)) (.d (intsD ((unpaid p v).map fun j => ((j : Nat) : Int)))) (.d (intsD ((badL p v).map fun j => ((j : Nat) : Int)))) (.d (.int (price p v))) (.d (clD (fullV p v))) (.o (.dk (toldK p.count) (v.map D.int))) (.d (.lst (List.replicate 6 (.int (price p v))))) (.d (prD CProblem p v)) (.d (dueD p v)) (.d (.int (0 - 1 + (i : Nat)))) .no .no) _
      refine' st_ifP (b := false) (tst_same (d := .bl (brkAt p v (0 - 1 + (i : Nat)))) ?z7 ?z8 (sm_bl _ _)) (fun z => by cases z) fun _ => st_nil ⟨_, rfl⟩
      case z7 =>
        refine' evp_call (arp_p (d := .tup [.str "breaks", probD CProblem p, clD v, .int (0 - 1 + (i : Nat))]) ?z9 arp_nil) rfl ⟨p, v, _, rfl, hv, ok, .inl ⟨_, rfl, rfl⟩⟩
        case z9 => walk_at "ev"
      case z8 =>
        refine' EvP.is (d := .bl (decide ((0 - 1 + (i : Nat) : Int) ∈ (badL p v).map fun j => ((j : Nat) : Int)))) ?z10 (by rw [bad_at])
        case z10 => walk_at "ev"
    case z3 =>
      rintro S' ⟨b25, rfl⟩
      exact ⟨_, _, _, _, _, _, _, _, _, _, rfl⟩
  case k3 =>
    rintro S' ⟨a16, a17, a18, a19, a20, a21, a22, a23, a24, a25, rfl⟩
    have rl : (rows p.count).length ≤ 32 := by
      rw [rows_len]
      exact Nat.le_trans (Nat.pow_le_pow_right (by decide) n5) (by decide)
    have rl0 : 0 < (rows p.count).length := by rw [rows_len]; exact Nat.pow_pos (by decide)
    refine st_seq (st_seto (by decide) (evo_lc (vs := [13]) (f := fun i : Nat => D.int i) (Rel := fun (_ : Nat) o => ∃ v : List Int, Val p.count v ∧ o = some (clD v)) (φ := fun xs => xs.length ≤ 9) ?a1 ?a2 ?a3 ?a4))
    case a1 => intro i hi m hm; simp at hi; subst hi; cases hm; rfl
    case a2 =>
      refine wkn_rng1 (evn_draw (i := 1) (m := 9) rfl (by walk_at "ev") (by omega) (by omega) fun v v0 v1 => ⟨v.toNat, by show D.int v = _; congr 1; omega, by omega, rfl, List.range v.toNat, ?b5, by simp; omega, by simp; omega⟩)
      case b5 => unfold rgD; simp
    case a3 =>
      intro xs hx a ha
      refine ⟨_, gt_name, tpn_yes ⟨rfl, fun z => (by cases z), fun _ => ?e6⟩⟩
      case e6 =>
      refine evn_ix (evn_op (EvP.n (d := .lst ((rows p.count).map clD)) ?e7 (evn_draw (i := 1) (m := (((rows p.count).map clD).length : Nat)) rfl ?e8 (by rw [List.length_map]; omega) (by rw [List.length_map]; omega) fun y y0 y1 => ?e9)))
      case e7 => walk_at "ev"
      case e8 => walk_at "ev"
      case e9 =>
        rw [List.length_map] at y1
        obtain ⟨j, rfl⟩ : ∃ j : Nat, y = (j : Int) := ⟨y.toNat, by omega⟩
        have hj : j < (rows p.count).length := by omega
        exact ⟨_, v_ixl (atI_nat (by rw [List.getElem?_map, List.getElem?_eq_getElem hj]; rfl)), rfl, (rows p.count)[j], rows_val _ _ (List.getElem_mem hj), rfl⟩
    case a4 =>
    intro xs ds hx hs
    obtain ⟨rs0, rfl, rok, rlen⟩ := sel_some hs
    clear hs
    refine st_frz (i := 26) rfl rfl (by decide) ?_
    show StN K [] _ (LS CProblem CModel CProgram ns p0 p a16 a17 a18 a19 a20 a21 a22 a23 a24 a25 (.d (.lst (rs0.map clD))) .no) _
    obtain ⟨rs, ers⟩ : ∃ rs, rs0 ++ rs0.take 2 = rs := ⟨_, rfl⟩
    have rval : ∀ v ∈ rs, Val p.count v := fun v hv => by
      rw [← ers] at hv
      rcases List.mem_append.mp hv with h | h
      · exact rok v h
      · exact rok v (List.mem_of_mem_take h)
    have rsl : rs.length ≤ 18 := by
      rw [← ers, List.length_append, List.length_take]; omega
    refine' st_seq (st_setP (d := .lst (rs.map clD)) (by decide) (EvF.p (EvF.is (evf_op (x := .lst (rs0.map clD)) (y := .lst ((rs0.take 2).map clD)) ?c1 ?c2 (v_cat (by simp; omega))) (by rw [← ers, List.map_append]))) ?c3)
    case c1 => walk_at "ev"
    case c2 => walk_at "ev"
    case c3 =>
    show StN K [] _ (LS CProblem CModel CProgram ns p0 p a16 a17 a18 a19 a20 a21 a22 a23 a24 a25 (.d (.lst (rs.map clD))) .no) _
    clear rok rlen ers rs0 hx xs
    have clV : ∀ v ∈ rs, ∀ c ∈ p.hard, ClOk v.length c := fun v hv c hc => by rw [(rval v hv).len]; exact ok.hard c hc
    have slV : ∀ v ∈ rs, ∀ s ∈ p.soft, ClOk v.length s.1 := fun v hv s hs => by rw [(rval v hv).len]; exact (ok.soft s hs).1
    have vL : ∀ v ∈ rs, v.length ≤ 300 := fun v hv => by rw [(rval v hv).len]; omega
    refine' st_seq (st_setP (d := .lst ((rs.filter (goodB p.hard)).map clD)) (by decide) (EvF.p (evf_lc (xs := rs) (f := clD) (r := clD) (p := goodB p.hard) ?d1 (by omega) ?d2)) ?d3)
    case d1 => walk_at "wk"
    case d2 =>
      intro v hv
      have h1 := clV v hv
      have h2 := vL v hv
      refine ⟨_, gt_name, tpp_tr (d := .bl (goodB p.hard v)) ?_ rfl, fun _ => by walk_at "ev"⟩
      refine' EvP.b (evp_call (arp_p (d := .tup (p.hard.map clD)) ?d4 (arp_p (d := clD v) ?d5 arp_nil)) rfl ⟨p.hard, v, rfl, h1, h2, rfl⟩)
      case d4 => walk_at "ev"
      case d5 => walk_at "ev"
    case d3 =>
    obtain ⟨gs, egs⟩ : ∃ gs, rs.filter (goodB p.hard) = gs := ⟨_, rfl⟩
    have gsub : ∀ v ∈ gs, v ∈ rs := fun v hv => by rw [← egs] at hv; exact (List.mem_filter.mp hv).1
    have gsl : gs.length ≤ 18 := by rw [← egs]; exact Nat.le_trans (List.length_filter_le _ _) rsl
    rw [egs]
    show StN K [] _ (LS CProblem CModel CProgram ns p0 p a16 a17 a18 a19 a20 a21 a22 a23 a24 a25 (.d (.lst (rs.map clD))) (.d (.lst (gs.map clD)))) _
    refine' st_seq (st_setP (d := intsD (gs.map fun v => softP p.soft v)) (by decide) (EvF.p (EvF.is (evf_lcA (xs := gs) (f := clD) (r := fun v => .int (softP p.soft v)) ?f1 (by omega) ?f2) (by unfold intsD; rw [List.map_map]; rfl))) ?f3)
    case f1 => walk_at "wk"
    case f2 =>
      intro v hv
      have h1 := slV v (gsub v hv)
      have h2 := vL v (gsub v hv)
      refine ⟨_, gt_name, ?_⟩
      refine' evp_call (arp_p (d := .tup (p.soft.map softD)) ?f4 (arp_p (d := clD v) ?f5 arp_nil)) rfl ⟨p.soft, v, rfl, h1, h2, by omega, rfl⟩
      case f4 => walk_at "ev"
      case f5 => walk_at "ev"
    case f3 =>
    show StN K [] _ (LS CProblem CModel CProgram ns p0 p a16 a17 a18 a19 a20 a21 (.d (intsD (gs.map fun v => softP p.soft v))) a23 a24 a25 (.d (.lst (rs.map clD))) (.d (.lst (gs.map clD)))) _
    refine' st_seq (st_setP (d := .non) (by decide) evp_non ?g1)
    case g1 =>
    show StN K [] _ (LS CProblem CModel CProgram ns p0 p a16 a17 a18 a19 a20 a21 (.d (intsD (gs.map fun v => softP p.soft v))) a23 (.d .non) a25 (.d (.lst (rs.map clD))) (.d (.lst (gs.map clD)))) _
    obtain ⟨b, hb⟩ := best_ex p rs
    refine' st_seqA (α := Unit) (fun _ => LS CProblem CModel CProgram ns p0 p a16 a17 a18 a19 a20 a21 (.d (intsD (gs.map fun v => softP p.soft v))) a23 (.d (optR b)) a25 (.d (.lst (rs.map clD))) (.d (.lst (gs.map clD)))) (fun _ => True) ?rest2 ?first2
    case rest2 =>
      intro _ _
      have sm : Sm 6 (optR b) := by
        cases b with
        | none => exact sm_non _
        | some r =>
          have hr : r ∈ rs := by
            obtain ⟨l1, l2, e, _⟩ := hb
            exact (List.mem_filter.mp (show r ∈ rs.filter (goodB p.hard) by rw [e]; simp)).1
          exact sm_tup (fun _ _ => sm_int _ _) (by have := vL r hr; omega)
      refine' st_retP (d := .bl true) (evp_same (d := optR b) ?h1 ?h2 sm) ⟨le_rt rfl, hR⟩
      case h1 =>
        refine' evp_call (arp_p (d := probD CProblem p) ?h3 (arp_p (d := .lst (rs.map clD)) ?h4 arp_nil)) rfl ⟨p, rs, _, rfl, rfl, rval, ok, fun b' hb' => by rw [best_uniq hb' hb]⟩
        case h3 => walk_at "ev"
        case h4 => walk_at "ev"
      case h2 => walk_at "ev"
    case first2 =>
      intro rest
      have r := rest () trivial
      refine' st_ifP (b := !decide (gs = [])) ?i1 (fun hg => ?i2) fun hg => ?i3
      case i1 =>
        refine' tpp_test (evp_op (x := .lst (gs.map clD)) (y := .lst (([] : List (List Int)).map clD)) ?i4 ?i5 (v_neT (emb_lst (emb_tup emb_int)) (by decide)))
        case i4 => walk_at "ev"
        case i5 => exact EvP.b (EvP.is (d := .lst []) (by walk_at "ev") rfl)
      case i3 =>
        cases b with
        | none => exact st_nil r
        | some q =>
          obtain ⟨l1, l2, e, _⟩ := hb
          rw [egs] at e
          have : gs = [] := of_decide_eq_true (by simpa using hg)
          rw [this] at e
          cases l1 <;> cases e
      case i2 =>
        cases b with
        | none =>
          have : gs = [] := egs.symm.trans hb
          rw [this] at hg
          cases hg
        | some q =>
          obtain ⟨l1, l2, e, k1, k2⟩ := hb
          rw [egs] at e
          have hat : atI (gs.map clD) ((l1.length : Nat) : Int) = some (clD q) := atI_nat (by rw [e]; simp)
          refine' st_setP (d := clD q) (by decide) (evp_ix (x := .lst (gs.map clD)) (y := .int (l1.length : Nat)) ?j1 (EvP.b (evp_index (ns := gs.map fun v => softP p.soft v) (i := price p q) (j := l1.length) ?j2 ?j3 ?j4 ?j5)) (v_ixl hat)) r
          case j1 => walk_at "ev"
          case j2 => walk_at "ev"
          case j3 =>
            refine' evp_cb (x := .lst (gs.map fun v => .int (softP p.soft v))) (EvP.b (EvP.is (d := intsD (gs.map fun v => softP p.soft v)) ?j6 (by unfold intsD; rw [List.map_map]; rfl))) (v_min ?j7 ?j8)
            case j6 => walk_at "ev"
            case j7 => exact List.mem_map.mpr ⟨q, by rw [e]; simp, rfl⟩
            case j8 =>
              intro y hy
              obtain ⟨x, hx, rfl⟩ := List.mem_map.mp hy
              show price p q ≤ price p x
              rw [e] at hx
              rcases List.mem_append.mp hx with h | h
              · exact Int.le_of_lt (k1 x h)
              · rcases List.mem_cons.mp h with h | h
                · rw [h]; exact Int.le_refl _
                · exact k2 x h
          case j4 => rw [e]; simp; rfl
          case j5 =>
            intro m hm z
            rw [e, List.map_append, List.getElem?_append_left (by rw [List.length_map]; exact hm), List.getElem?_map, List.getElem?_eq_getElem hm] at z
            have z2 : price p l1[m] = price p q := Option.some.inj z
            have := k1 _ (List.getElem_mem hm)
            omega
end
open PySem PySem.Spec L2 Evl PyProof.Rows Dl
theorem all_mk {w : World} {K : PySem.W.Frag} {h : Heap} {mg : Str → Option Value} {fa CProblem CModel CProgram f1 f2 f3 f4 f5 f6 f7 f8 f9 f10 f11 f12 f13 f14 f15 f16 f17 f18 f19 f20 f21 f22 f23 f24 f25 f26 f27 f28 f29 f30 f31 f32 f33 f34 f35 f36 f37 f38 f39 f40 f41 f42 f43 f44 a_SIGNS : Addr} (X : K.In h) (G : h.Ns mainGlobals mg) (hfa : mg "law" = some (.ref fa))
    {od1 an1 : Option Addr} {sl1 : Array (Option Value)} {oc1 kV1 dc1 pm1 cd1 ct1 : Value}
    {od2 an2 : Option Addr} {sl2 : Array (Option Value)} {oc2 kV2 dc2 pm2 cd2 ct2 : Value}
    {od3 an3 : Option Addr} {sl3 : Array (Option Value)} {oc3 kV3 dc3 pm3 cd3 ct3 : Value}
    {od4 an4 : Option Addr} {sl4 : Array (Option Value)} {oc4 kV4 dc4 pm4 cd4 ct4 : Value}
    {od5 an5 : Option Addr} {sl5 : Array (Option Value)} {oc5 kV5 dc5 pm5 cd5 ct5 : Value}
    {od6 an6 : Option Addr} {sl6 : Array (Option Value)} {oc6 kV6 dc6 pm6 cd6 ct6 : Value}
    {od7 an7 : Option Addr} {sl7 : Array (Option Value)} {oc7 kV7 dc7 pm7 cd7 ct7 : Value}
    {od8 an8 : Option Addr} {sl8 : Array (Option Value)} {oc8 kV8 dc8 pm8 cd8 ct8 : Value}
    {od9 an9 : Option Addr} {sl9 : Array (Option Value)} {oc9 kV9 dc9 pm9 cd9 ct9 : Value}
    {od10 an10 : Option Addr} {sl10 : Array (Option Value)} {oc10 kV10 dc10 pm10 cd10 ct10 : Value}
    {od11 an11 : Option Addr} {sl11 : Array (Option Value)} {oc11 kV11 dc11 pm11 cd11 ct11 : Value}
    {od12 an12 : Option Addr} {sl12 : Array (Option Value)} {oc12 kV12 dc12 pm12 cd12 ct12 : Value}
    {od13 an13 : Option Addr} {sl13 : Array (Option Value)} {oc13 kV13 dc13 pm13 cd13 ct13 : Value}
    {od14 an14 : Option Addr} {sl14 : Array (Option Value)} {oc14 kV14 dc14 pm14 cd14 ct14 : Value}
    {od15 an15 : Option Addr} {sl15 : Array (Option Value)} {oc15 kV15 dc15 pm15 cd15 ct15 : Value}
    {od16 an16 : Option Addr} {sl16 : Array (Option Value)} {oc16 kV16 dc16 pm16 cd16 ct16 : Value}
    {od17 an17 : Option Addr} {sl17 : Array (Option Value)} {oc17 kV17 dc17 pm17 cd17 ct17 : Value}
    {od18 an18 : Option Addr} {sl18 : Array (Option Value)} {oc18 kV18 dc18 pm18 cd18 ct18 : Value}
    {od19 an19 : Option Addr} {sl19 : Array (Option Value)} {oc19 kV19 dc19 pm19 cd19 ct19 : Value}
    {od20 an20 : Option Addr} {sl20 : Array (Option Value)} {oc20 kV20 dc20 pm20 cd20 ct20 : Value}
    {od21 an21 : Option Addr} {sl21 : Array (Option Value)} {oc21 kV21 dc21 pm21 cd21 ct21 : Value}
    {od22 an22 : Option Addr} {sl22 : Array (Option Value)} {oc22 kV22 dc22 pm22 cd22 ct22 : Value}
    {od23 an23 : Option Addr} {sl23 : Array (Option Value)} {oc23 kV23 dc23 pm23 cd23 ct23 : Value}
    {od24 an24 : Option Addr} {sl24 : Array (Option Value)} {oc24 kV24 dc24 pm24 cd24 ct24 : Value}
    {od25 an25 : Option Addr} {sl25 : Array (Option Value)} {oc25 kV25 dc25 pm25 cd25 ct25 : Value}
    {od26 an26 : Option Addr} {sl26 : Array (Option Value)} {oc26 kV26 dc26 pm26 cd26 ct26 : Value}
    {od27 an27 : Option Addr} {sl27 : Array (Option Value)} {oc27 kV27 dc27 pm27 cd27 ct27 : Value}
    {od28 an28 : Option Addr} {sl28 : Array (Option Value)} {oc28 kV28 dc28 pm28 cd28 ct28 : Value}
    {od29 an29 : Option Addr} {sl29 : Array (Option Value)} {oc29 kV29 dc29 pm29 cd29 ct29 : Value}
    {od30 an30 : Option Addr} {sl30 : Array (Option Value)} {oc30 kV30 dc30 pm30 cd30 ct30 : Value}
    {od31 an31 : Option Addr} {sl31 : Array (Option Value)} {oc31 kV31 dc31 pm31 cd31 ct31 : Value}
    {od32 an32 : Option Addr} {sl32 : Array (Option Value)} {oc32 kV32 dc32 pm32 cd32 ct32 : Value}
    {od33 an33 : Option Addr} {sl33 : Array (Option Value)} {oc33 kV33 dc33 pm33 cd33 ct33 : Value}
    {od34 an34 : Option Addr} {sl34 : Array (Option Value)} {oc34 kV34 dc34 pm34 cd34 ct34 : Value}
    {od35 an35 : Option Addr} {sl35 : Array (Option Value)} {oc35 kV35 dc35 pm35 cd35 ct35 : Value}
    {od36 an36 : Option Addr} {sl36 : Array (Option Value)} {oc36 kV36 dc36 pm36 cd36 ct36 : Value}
    {od37 an37 : Option Addr} {sl37 : Array (Option Value)} {oc37 kV37 dc37 pm37 cd37 ct37 : Value}
    {od38 an38 : Option Addr} {sl38 : Array (Option Value)} {oc38 kV38 dc38 pm38 cd38 ct38 : Value}
    {od39 an39 : Option Addr} {sl39 : Array (Option Value)} {oc39 kV39 dc39 pm39 cd39 ct39 : Value}
    {od40 an40 : Option Addr} {sl40 : Array (Option Value)} {oc40 kV40 dc40 pm40 cd40 ct40 : Value}
    {od41 an41 : Option Addr} {sl41 : Array (Option Value)} {oc41 kV41 dc41 pm41 cd41 ct41 : Value}
    {od42 an42 : Option Addr} {sl42 : Array (Option Value)} {oc42 kV42 dc42 pm42 cd42 ct42 : Value}
    {od43 an43 : Option Addr} {sl43 : Array (Option Value)} {oc43 kV43 dc43 pm43 cd43 ct43 : Value}
    {od44 an44 : Option Addr} {sl44 : Array (Option Value)} {oc44 kV44 dc44 pm44 cd44 ct44 : Value}
    {t_g_MOST_COUNT : _}
    {t_g_MOST_HARD : _}
    {t_g_MOST_SOFT : _}
    {t_g_MOST_WEIGHT : _}
    {t_g_MOST_NAMES : _}
    {t_g_MOST_ITEMS : _}
    {t_g_MOST_NUMBER : _}
    {od_SIGNS : Option Addr} {sl_SIGNS : Array (Option Value)} {n_SIGNS : Nat} {t0_SIGNS t1_SIGNS t2_SIGNS t3_SIGNS t4_SIGNS t5_SIGNS t6_SIGNS t7_SIGNS : _}
    (cA_Problem : PySem.W.nsIn K mainGlobals "Problem" = some (some (.ref CProblem)))
    (pg_Problem : PySem.W.plainGet K CProblem Str.empty = true)
    (hd_Problem : PySem.W.hasDictIn K CProblem = true)
    (po_Problem : PySem.W.plainOver K CProblem = true)
    (sa_Problem : PySem.W.findIn K (.ref CProblem) "__setattr__" = some (some (.builtin "object.__setattr__")))
    (mk_Problem : PySem.W.makesIn K CProblem = true)
    (kc_Problem : PySem.W.keepIn K (.ref CProblem) = true)
    (cA_Model : PySem.W.nsIn K mainGlobals "Model" = some (some (.ref CModel)))
    (pg_Model : PySem.W.plainGet K CModel Str.empty = true)
    (hd_Model : PySem.W.hasDictIn K CModel = true)
    (po_Model : PySem.W.plainOver K CModel = true)
    (sa_Model : PySem.W.findIn K (.ref CModel) "__setattr__" = some (some (.builtin "object.__setattr__")))
    (mk_Model : PySem.W.makesIn K CModel = true)
    (kc_Model : PySem.W.keepIn K (.ref CModel) = true)
    (cA_Program : PySem.W.nsIn K mainGlobals "Program" = some (some (.ref CProgram)))
    (pg_Program : PySem.W.plainGet K CProgram Str.empty = true)
    (hd_Program : PySem.W.hasDictIn K CProgram = true)
    (po_Program : PySem.W.plainOver K CProgram = true)
    (sa_Program : PySem.W.findIn K (.ref CProgram) "__setattr__" = some (some (.builtin "object.__setattr__")))
    (mk_Program : PySem.W.makesIn K CProgram = true)
    (kc_Program : PySem.W.keepIn K (.ref CProgram) = true)
    (a1 : PySem.W.nsIn K mainGlobals "is_clause" = some (some (.ref f1)))
    (l1 : K.lookup f1 = some ⟨oc1, od1, .func (PySem.W.fnOf "is_clause" "is_clause" (defArgs s_is_clause) (defBody s_is_clause) (defScope s_is_clause) .none kV1 dc1 pm1 an1 cd1 ct1), sl1⟩)
    (c1 : PySem.W.codeIn K cd1 "is_clause" = true)
    (k1 : PySem.W.keepIn K (.ref f1) = true)
    (a2 : PySem.W.nsIn K mainGlobals "is_true" = some (some (.ref f2)))
    (l2 : K.lookup f2 = some ⟨oc2, od2, .func (PySem.W.fnOf "is_true" "is_true" (defArgs s_is_true) (defBody s_is_true) (defScope s_is_true) .none kV2 dc2 pm2 an2 cd2 ct2), sl2⟩)
    (c2 : PySem.W.codeIn K cd2 "is_true" = true)
    (k2 : PySem.W.keepIn K (.ref f2) = true)
    (a3 : PySem.W.nsIn K mainGlobals "holds" = some (some (.ref f3)))
    (l3 : K.lookup f3 = some ⟨oc3, od3, .func (PySem.W.fnOf "holds" "holds" (defArgs s_holds) (defBody s_holds) (defScope s_holds) .none kV3 dc3 pm3 an3 cd3 ct3), sl3⟩)
    (c3 : PySem.W.codeIn K cd3 "holds" = true)
    (k3 : PySem.W.keepIn K (.ref f3) = true)
    (a4 : PySem.W.nsIn K mainGlobals "are_values" = some (some (.ref f4)))
    (l4 : K.lookup f4 = some ⟨oc4, od4, .func (PySem.W.fnOf "are_values" "are_values" (defArgs s_are_values) (defBody s_are_values) (defScope s_are_values) .none kV4 dc4 pm4 an4 cd4 ct4), sl4⟩)
    (c4 : PySem.W.codeIn K cd4 "are_values" = true)
    (k4 : PySem.W.keepIn K (.ref f4) = true)
    (a5 : PySem.W.findIn K (.ref CProblem) "__init__" = some (some (.ref f5)))
    (i5 : PySem.W.isFn K (.ref f5) = true)
    (l5 : K.lookup f5 = some ⟨oc5, od5, .func (PySem.W.fnOf "__init__" "Problem.__init__" (defArgs s_Problem_init) (defBody s_Problem_init) (defScope s_Problem_init) .none kV5 dc5 pm5 an5 cd5 ct5), sl5⟩)
    (c5 : PySem.W.codeIn K cd5 "Problem.__init__" = true)
    (k5 : PySem.W.keepIn K (.ref f5) = true)
    (a6 : PySem.W.findIn K (.ref CProblem) "payer" = some (some (.ref f6)))
    (i6 : PySem.W.isFn K (.ref f6) = true)
    (l6 : K.lookup f6 = some ⟨oc6, od6, .func (PySem.W.fnOf "payer" "Problem.payer" (defArgs s_Problem_payer) (defBody s_Problem_payer) (defScope s_Problem_payer) .none kV6 dc6 pm6 an6 cd6 ct6), sl6⟩)
    (c6 : PySem.W.codeIn K cd6 "Problem.payer" = true)
    (k6 : PySem.W.keepIn K (.ref f6) = true)
    (a7 : PySem.W.findIn K (.ref CProblem) "base" = some (some (.ref f7)))
    (i7 : PySem.W.isFn K (.ref f7) = true)
    (l7 : K.lookup f7 = some ⟨oc7, od7, .func (PySem.W.fnOf "base" "Problem.base" (defArgs s_Problem_base) (defBody s_Problem_base) (defScope s_Problem_base) .none kV7 dc7 pm7 an7 cd7 ct7), sl7⟩)
    (c7 : PySem.W.codeIn K cd7 "Problem.base" = true)
    (k7 : PySem.W.keepIn K (.ref f7) = true)
    (a8 : PySem.W.findIn K (.ref CProblem) "whole_price" = some (some (.ref f8)))
    (i8 : PySem.W.isFn K (.ref f8) = true)
    (l8 : K.lookup f8 = some ⟨oc8, od8, .func (PySem.W.fnOf "whole_price" "Problem.whole_price" (defArgs s_Problem_whole_price) (defBody s_Problem_whole_price) (defScope s_Problem_whole_price) .none kV8 dc8 pm8 an8 cd8 ct8), sl8⟩)
    (c8 : PySem.W.codeIn K cd8 "Problem.whole_price" = true)
    (k8 : PySem.W.keepIn K (.ref f8) = true)
    (a9 : PySem.W.nsIn K mainGlobals "is_soft" = some (some (.ref f9)))
    (l9 : K.lookup f9 = some ⟨oc9, od9, .func (PySem.W.fnOf "is_soft" "is_soft" (defArgs s_is_soft) (defBody s_is_soft) (defScope s_is_soft) .none kV9 dc9 pm9 an9 cd9 ct9), sl9⟩)
    (c9 : PySem.W.codeIn K cd9 "is_soft" = true)
    (k9 : PySem.W.keepIn K (.ref f9) = true)
    (a10 : PySem.W.nsIn K mainGlobals "checked_values" = some (some (.ref f10)))
    (l10 : K.lookup f10 = some ⟨oc10, od10, .func (PySem.W.fnOf "checked_values" "checked_values" (defArgs s_checked_values) (defBody s_checked_values) (defScope s_checked_values) .none kV10 dc10 pm10 an10 cd10 ct10), sl10⟩)
    (c10 : PySem.W.codeIn K cd10 "checked_values" = true)
    (k10 : PySem.W.keepIn K (.ref f10) = true)
    (a11 : PySem.W.nsIn K mainGlobals "broken" = some (some (.ref f11)))
    (l11 : K.lookup f11 = some ⟨oc11, od11, .func (PySem.W.fnOf "broken" "broken" (defArgs s_broken) (defBody s_broken) (defScope s_broken) .none kV11 dc11 pm11 an11 cd11 ct11), sl11⟩)
    (c11 : PySem.W.codeIn K cd11 "broken" = true)
    (k11 : PySem.W.keepIn K (.ref f11) = true)
    (a12 : PySem.W.nsIn K mainGlobals "price_of" = some (some (.ref f12)))
    (l12 : K.lookup f12 = some ⟨oc12, od12, .func (PySem.W.fnOf "price_of" "price_of" (defArgs s_price_of) (defBody s_price_of) (defScope s_price_of) .none kV12 dc12 pm12 an12 cd12 ct12), sl12⟩)
    (c12 : PySem.W.codeIn K cd12 "price_of" = true)
    (k12 : PySem.W.keepIn K (.ref f12) = true)
    (a13 : PySem.W.nsIn K mainGlobals "unpaid" = some (some (.ref f13)))
    (l13 : K.lookup f13 = some ⟨oc13, od13, .func (PySem.W.fnOf "unpaid" "unpaid" (defArgs s_unpaid) (defBody s_unpaid) (defScope s_unpaid) .none kV13 dc13 pm13 an13 cd13 ct13), sl13⟩)
    (c13 : PySem.W.codeIn K cd13 "unpaid" = true)
    (k13 : PySem.W.keepIn K (.ref f13) = true)
    (a14 : PySem.W.nsIn K mainGlobals "cheapest_of" = some (some (.ref f14)))
    (l14 : K.lookup f14 = some ⟨oc14, od14, .func (PySem.W.fnOf "cheapest_of" "cheapest_of" (defArgs s_cheapest_of) (defBody s_cheapest_of) (defScope s_cheapest_of) .none kV14 dc14 pm14 an14 cd14 ct14), sl14⟩)
    (c14 : PySem.W.codeIn K cd14 "cheapest_of" = true)
    (k14 : PySem.W.keepIn K (.ref f14) = true)
    (a15 : PySem.W.nsIn K mainGlobals "priced" = some (some (.ref f15)))
    (l15 : K.lookup f15 = some ⟨oc15, od15, .func (PySem.W.fnOf "priced" "priced" (defArgs s_priced) (defBody s_priced) (defScope s_priced) .none kV15 dc15 pm15 an15 cd15 ct15), sl15⟩)
    (c15 : PySem.W.codeIn K cd15 "priced" = true)
    (k15 : PySem.W.keepIn K (.ref f15) = true)
    (a16 : PySem.W.nsIn K mainGlobals "priced_right" = some (some (.ref f16)))
    (l16 : K.lookup f16 = some ⟨oc16, od16, .func (PySem.W.fnOf "priced_right" "priced_right" (defArgs s_priced_right) (defBody s_priced_right) (defScope s_priced_right) .none kV16 dc16 pm16 an16 cd16 ct16), sl16⟩)
    (c16 : PySem.W.codeIn K cd16 "priced_right" = true)
    (k16 : PySem.W.keepIn K (.ref f16) = true)
    (a17 : PySem.W.nsIn K mainGlobals "full_values" = some (some (.ref f17)))
    (l17 : K.lookup f17 = some ⟨oc17, od17, .func (PySem.W.fnOf "full_values" "full_values" (defArgs s_full_values) (defBody s_full_values) (defScope s_full_values) .none kV17 dc17 pm17 an17 cd17 ct17), sl17⟩)
    (c17 : PySem.W.codeIn K cd17 "full_values" = true)
    (k17 : PySem.W.keepIn K (.ref f17) = true)
    (a18 : PySem.W.nsIn K mainGlobals "is_name" = some (some (.ref f18)))
    (l18 : K.lookup f18 = some ⟨oc18, od18, .func (PySem.W.fnOf "is_name" "is_name" (defArgs s_is_name) (defBody s_is_name) (defScope s_is_name) .none kV18 dc18 pm18 an18 cd18 ct18), sl18⟩)
    (c18 : PySem.W.codeIn K cd18 "is_name" = true)
    (k18 : PySem.W.keepIn K (.ref f18) = true)
    (a19 : PySem.W.nsIn K mainGlobals "names_in" = some (some (.ref f19)))
    (l19 : K.lookup f19 = some ⟨oc19, od19, .func (PySem.W.fnOf "names_in" "names_in" (defArgs s_names_in) (defBody s_names_in) (defScope s_names_in) .none kV19 dc19 pm19 an19 cd19 ct19), sl19⟩)
    (c19 : PySem.W.codeIn K cd19 "names_in" = true)
    (k19 : PySem.W.keepIn K (.ref f19) = true)
    (a20 : PySem.W.nsIn K mainGlobals "value_of" = some (some (.ref f20)))
    (l20 : K.lookup f20 = some ⟨oc20, od20, .func (PySem.W.fnOf "value_of" "value_of" (defArgs s_value_of) (defBody s_value_of) (defScope s_value_of) .none kV20 dc20 pm20 an20 cd20 ct20), sl20⟩)
    (c20 : PySem.W.codeIn K cd20 "value_of" = true)
    (k20 : PySem.W.keepIn K (.ref f20) = true)
    (a21 : PySem.W.nsIn K mainGlobals "row_of" = some (some (.ref f21)))
    (l21 : K.lookup f21 = some ⟨oc21, od21, .func (PySem.W.fnOf "row_of" "row_of" (defArgs s_row_of) (defBody s_row_of) (defScope s_row_of) .none kV21 dc21 pm21 an21 cd21 ct21), sl21⟩)
    (c21 : PySem.W.codeIn K cd21 "row_of" = true)
    (k21 : PySem.W.keepIn K (.ref f21) = true)
    (a22 : PySem.W.findIn K (.ref CModel) "__init__" = some (some (.ref f22)))
    (i22 : PySem.W.isFn K (.ref f22) = true)
    (l22 : K.lookup f22 = some ⟨oc22, od22, .func (PySem.W.fnOf "__init__" "Model.__init__" (defArgs s_Model_init) (defBody s_Model_init) (defScope s_Model_init) .none kV22 dc22 pm22 an22 cd22 ct22), sl22⟩)
    (c22 : PySem.W.codeIn K cd22 "Model.__init__" = true)
    (k22 : PySem.W.keepIn K (.ref f22) = true)
    (a23 : PySem.W.findIn K (.ref CModel) "keeps" = some (some (.ref f23)))
    (i23 : PySem.W.isFn K (.ref f23) = true)
    (l23 : K.lookup f23 = some ⟨oc23, od23, .func (PySem.W.fnOf "keeps" "Model.keeps" (defArgs s_Model_keeps) (defBody s_Model_keeps) (defScope s_Model_keeps) .none kV23 dc23 pm23 an23 cd23 ct23), sl23⟩)
    (c23 : PySem.W.codeIn K cd23 "Model.keeps" = true)
    (k23 : PySem.W.keepIn K (.ref f23) = true)
    (a24 : PySem.W.findIn K (.ref CModel) "price" = some (some (.ref f24)))
    (i24 : PySem.W.isFn K (.ref f24) = true)
    (l24 : K.lookup f24 = some ⟨oc24, od24, .func (PySem.W.fnOf "price" "Model.price" (defArgs s_Model_price) (defBody s_Model_price) (defScope s_Model_price) .none kV24 dc24 pm24 an24 cd24 ct24), sl24⟩)
    (c24 : PySem.W.codeIn K cd24 "Model.price" = true)
    (k24 : PySem.W.keepIn K (.ref f24) = true)
    (a25 : PySem.W.findIn K (.ref CProgram) "__init__" = some (some (.ref f25)))
    (i25 : PySem.W.isFn K (.ref f25) = true)
    (l25 : K.lookup f25 = some ⟨oc25, od25, .func (PySem.W.fnOf "__init__" "Program.__init__" (defArgs s_Program_init) (defBody s_Program_init) (defScope s_Program_init) .none kV25 dc25 pm25 an25 cd25 ct25), sl25⟩)
    (c25 : PySem.W.codeIn K cd25 "Program.__init__" = true)
    (k25 : PySem.W.keepIn K (.ref f25) = true)
    (a26 : PySem.W.findIn K (.ref CProgram) "cost" = some (some (.ref f26)))
    (i26 : PySem.W.isFn K (.ref f26) = true)
    (l26 : K.lookup f26 = some ⟨oc26, od26, .func (PySem.W.fnOf "cost" "Program.cost" (defArgs s_Program_cost) (defBody s_Program_cost) (defScope s_Program_cost) .none kV26 dc26 pm26 an26 cd26 ct26), sl26⟩)
    (c26 : PySem.W.codeIn K cd26 "Program.cost" = true)
    (k26 : PySem.W.keepIn K (.ref f26) = true)
    (a27 : PySem.W.nsIn K mainGlobals "is_term" = some (some (.ref f27)))
    (l27 : K.lookup f27 = some ⟨oc27, od27, .func (PySem.W.fnOf "is_term" "is_term" (defArgs s_is_term) (defBody s_is_term) (defScope s_is_term) .none kV27 dc27 pm27 an27 cd27 ct27), sl27⟩)
    (c27 : PySem.W.codeIn K cd27 "is_term" = true)
    (k27 : PySem.W.keepIn K (.ref f27) = true)
    (a28 : PySem.W.nsIn K mainGlobals "is_cost" = some (some (.ref f28)))
    (l28 : K.lookup f28 = some ⟨oc28, od28, .func (PySem.W.fnOf "is_cost" "is_cost" (defArgs s_is_cost) (defBody s_is_cost) (defScope s_is_cost) .none kV28 dc28 pm28 an28 cd28 ct28), sl28⟩)
    (c28 : PySem.W.codeIn K cd28 "is_cost" = true)
    (k28 : PySem.W.keepIn K (.ref f28) = true)
    (a29 : PySem.W.nsIn K mainGlobals "weight_of" = some (some (.ref f29)))
    (l29 : K.lookup f29 = some ⟨oc29, od29, .func (PySem.W.fnOf "weight_of" "weight_of" (defArgs s_weight_of) (defBody s_weight_of) (defScope s_weight_of) .none kV29 dc29 pm29 an29 cd29 ct29), sl29⟩)
    (c29 : PySem.W.codeIn K cd29 "weight_of" = true)
    (k29 : PySem.W.keepIn K (.ref f29) = true)
    (a30 : PySem.W.nsIn K mainGlobals "second_price" = some (some (.ref f30)))
    (l30 : K.lookup f30 = some ⟨oc30, od30, .func (PySem.W.fnOf "second_price" "second_price" (defArgs s_second_price) (defBody s_second_price) (defScope s_second_price) .none kV30 dc30 pm30 an30 cd30 ct30), sl30⟩)
    (c30 : PySem.W.codeIn K cd30 "second_price" = true)
    (k30 : PySem.W.keepIn K (.ref f30) = true)
    (a31 : PySem.W.nsIn K mainGlobals "prices_of" = some (some (.ref f31)))
    (l31 : K.lookup f31 = some ⟨oc31, od31, .func (PySem.W.fnOf "prices_of" "prices_of" (defArgs s_prices_of) (defBody s_prices_of) (defScope s_prices_of) .none kV31 dc31 pm31 an31 cd31 ct31), sl31⟩)
    (c31 : PySem.W.codeIn K cd31 "prices_of" = true)
    (k31 : PySem.W.keepIn K (.ref f31) = true)
    (a32 : PySem.W.nsIn K mainGlobals "_law_pool" = some (some (.ref f32)))
    (l32 : K.lookup f32 = some ⟨oc32, od32, .func (PySem.W.fnOf "_law_pool" "_law_pool" (defArgs s_law_pool) (defBody s_law_pool) (defScope s_law_pool) .none kV32 dc32 pm32 an32 cd32 ct32), sl32⟩)
    (c32 : PySem.W.codeIn K cd32 "_law_pool" = true)
    (k32 : PySem.W.keepIn K (.ref f32) = true)
    (a33 : PySem.W.nsIn K mainGlobals "_law_draw" = some (some (.ref f33)))
    (l33 : K.lookup f33 = some ⟨oc33, od33, .func (PySem.W.fnOf "_law_draw" "_law_draw" (defArgs s_law_draw) (defBody s_law_draw) (defScope s_law_draw) .none kV33 dc33 pm33 an33 cd33 ct33), sl33⟩)
    (c33 : PySem.W.codeIn K cd33 "_law_draw" = true)
    (k33 : PySem.W.keepIn K (.ref f33) = true)
    (a34 : PySem.W.nsIn K mainGlobals "_law_same" = some (some (.ref f34)))
    (l34 : K.lookup f34 = some ⟨oc34, od34, .func (PySem.W.fnOf "_law_same" "_law_same" (defArgs s_law_same) (defBody s_law_same) (defScope s_law_same) .none kV34 dc34 pm34 an34 cd34 ct34), sl34⟩)
    (c34 : PySem.W.codeIn K cd34 "_law_same" = true)
    (k34 : PySem.W.keepIn K (.ref f34) = true)
    (a35 : PySem.W.nsIn K mainGlobals "_law_literals" = some (some (.ref f35)))
    (l35 : K.lookup f35 = some ⟨oc35, od35, .func (PySem.W.fnOf "_law_literals" "_law_literals" (defArgs s_law_literals) (defBody s_law_literals) (defScope s_law_literals) .none kV35 dc35 pm35 an35 cd35 ct35), sl35⟩)
    (c35 : PySem.W.codeIn K cd35 "_law_literals" = true)
    (k35 : PySem.W.keepIn K (.ref f35) = true)
    (a36 : PySem.W.nsIn K mainGlobals "_law_problem" = some (some (.ref f36)))
    (l36 : K.lookup f36 = some ⟨oc36, od36, .func (PySem.W.fnOf "_law_problem" "_law_problem" (defArgs s_law_problem) (defBody s_law_problem) (defScope s_law_problem) .none kV36 dc36 pm36 an36 cd36 ct36), sl36⟩)
    (c36 : PySem.W.codeIn K cd36 "_law_problem" = true)
    (k36 : PySem.W.keepIn K (.ref f36) = true)
    (a37 : PySem.W.nsIn K mainGlobals "_law_doubled" = some (some (.ref f37)))
    (l37 : K.lookup f37 = some ⟨oc37, od37, .func (PySem.W.fnOf "_law_doubled" "_law_doubled" (defArgs s_law_doubled) (defBody s_law_doubled) (defScope s_law_doubled) .none kV37 dc37 pm37 an37 cd37 ct37), sl37⟩)
    (c37 : PySem.W.codeIn K cd37 "_law_doubled" = true)
    (k37 : PySem.W.keepIn K (.ref f37) = true)
    (a38 : PySem.W.nsIn K mainGlobals "_law_rows" = some (some (.ref f38)))
    (l38 : K.lookup f38 = some ⟨oc38, od38, .func (PySem.W.fnOf "_law_rows" "_law_rows" (defArgs s_law_rows) (defBody s_law_rows) (defScope s_law_rows) .none kV38 dc38 pm38 an38 cd38 ct38), sl38⟩)
    (c38 : PySem.W.codeIn K cd38 "_law_rows" = true)
    (k38 : PySem.W.keepIn K (.ref f38) = true)
    (a39 : PySem.W.nsIn K mainGlobals "_law_holds" = some (some (.ref f39)))
    (l39 : K.lookup f39 = some ⟨oc39, od39, .func (PySem.W.fnOf "_law_holds" "_law_holds" (defArgs s_law_holds) (defBody s_law_holds) (defScope s_law_holds) .none kV39 dc39 pm39 an39 cd39 ct39), sl39⟩)
    (c39 : PySem.W.codeIn K cd39 "_law_holds" = true)
    (k39 : PySem.W.keepIn K (.ref f39) = true)
    (a40 : PySem.W.nsIn K mainGlobals "_law_good" = some (some (.ref f40)))
    (l40 : K.lookup f40 = some ⟨oc40, od40, .func (PySem.W.fnOf "_law_good" "_law_good" (defArgs s_law_good) (defBody s_law_good) (defScope s_law_good) .none kV40 dc40 pm40 an40 cd40 ct40), sl40⟩)
    (c40 : PySem.W.codeIn K cd40 "_law_good" = true)
    (k40 : PySem.W.keepIn K (.ref f40) = true)
    (a41 : PySem.W.nsIn K mainGlobals "_law_price" = some (some (.ref f41)))
    (l41 : K.lookup f41 = some ⟨oc41, od41, .func (PySem.W.fnOf "_law_price" "_law_price" (defArgs s_law_price) (defBody s_law_price) (defScope s_law_price) .none kV41 dc41 pm41 an41 cd41 ct41), sl41⟩)
    (c41 : PySem.W.codeIn K cd41 "_law_price" = true)
    (k41 : PySem.W.keepIn K (.ref f41) = true)
    (a42 : PySem.W.nsIn K mainGlobals "_law_base" = some (some (.ref f42)))
    (l42 : K.lookup f42 = some ⟨oc42, od42, .func (PySem.W.fnOf "_law_base" "_law_base" (defArgs s_law_base) (defBody s_law_base) (defScope s_law_base) .none kV42 dc42 pm42 an42 cd42 ct42), sl42⟩)
    (c42 : PySem.W.codeIn K cd42 "_law_base" = true)
    (k42 : PySem.W.keepIn K (.ref f42) = true)
    (a43 : PySem.W.nsIn K mainGlobals "_law_as_term" = some (some (.ref f43)))
    (l43 : K.lookup f43 = some ⟨oc43, od43, .func (PySem.W.fnOf "_law_as_term" "_law_as_term" (defArgs s_law_as_term) (defBody s_law_as_term) (defScope s_law_as_term) .none kV43 dc43 pm43 an43 cd43 ct43), sl43⟩)
    (c43 : PySem.W.codeIn K cd43 "_law_as_term" = true)
    (k43 : PySem.W.keepIn K (.ref f43) = true)
    (a44 : PySem.W.nsIn K mainGlobals "law" = some (some (.ref f44)))
    (l44 : K.lookup f44 = some ⟨oc44, od44, .func (PySem.W.fnOf "law" "law" (defArgs s_law) (defBody s_law) (defScope s_law) .none kV44 dc44 pm44 an44 cd44 ct44), sl44⟩)
    (c44 : PySem.W.codeIn K cd44 "law" = true)
    (k44 : PySem.W.keepIn K (.ref f44) = true)
    (z_f_Problem_count : PySem.W.findIn K (.ref CProblem) "count" = some none)
    (z_f_Problem_hard : PySem.W.findIn K (.ref CProblem) "hard" = some none)
    (z_f_Problem_soft : PySem.W.findIn K (.ref CProblem) "soft" = some none)
    (z_f_Model_names : PySem.W.findIn K (.ref CModel) "names" = some none)
    (z_f_Model_rules : PySem.W.findIn K (.ref CModel) "rules" = some none)
    (z_f_Model_costs : PySem.W.findIn K (.ref CModel) "costs" = some none)
    (z_f_Program_count : PySem.W.findIn K (.ref CProgram) "count" = some none)
    (z_f_Program_rows : PySem.W.findIn K (.ref CProgram) "rows" = some none)
    (z_f_Program_costs : PySem.W.findIn K (.ref CProgram) "costs" = some none)
    (z_n_sum : PySem.W.nsIn K mainGlobals "sum" = some none)
    (z_n_any : PySem.W.nsIn K mainGlobals "any" = some none)
    (z_n_all : PySem.W.nsIn K mainGlobals "all" = some none)
    (z_n_min : PySem.W.nsIn K mainGlobals "min" = some none)
    (z_n_max : PySem.W.nsIn K mainGlobals "max" = some none)
    (z_n_enumerate : PySem.W.nsIn K mainGlobals "enumerate" = some none)
    (z_n_list : PySem.W.nsIn K mainGlobals "list" = some none)
    (z_n_tuple : PySem.W.nsIn K mainGlobals "tuple" = some none)
    (z_n_sorted : PySem.W.nsIn K mainGlobals "sorted" = some none)
    (z_n_len : PySem.W.nsIn K mainGlobals "len" = some none)
    (z_n_range : PySem.W.nsIn K mainGlobals "range" = some none)
    (z_n_dict : PySem.W.nsIn K mainGlobals "dict" = some none)
    (z_n_set : PySem.W.nsIn K mainGlobals "set" = some none)
    (z_n_int : PySem.W.nsIn K mainGlobals "int" = some none)
    (z_n_isinstance : PySem.W.nsIn K mainGlobals "isinstance" = some none)
    (z_n_str : PySem.W.nsIn K mainGlobals "str" = some none)
    (z_n_bool : PySem.W.nsIn K mainGlobals "bool" = some none)
    (z_n_zip : PySem.W.nsIn K mainGlobals "zip" = some none)
    (z_n_abs : PySem.W.nsIn K mainGlobals "abs" = some none)
    (z_g_MOST_COUNT : PySem.W.nsIn K mainGlobals "MOST_COUNT" = some (some (.int 300 t_g_MOST_COUNT)))
    (z_g_MOST_HARD : PySem.W.nsIn K mainGlobals "MOST_HARD" = some (some (.int 3000 t_g_MOST_HARD)))
    (z_g_MOST_SOFT : PySem.W.nsIn K mainGlobals "MOST_SOFT" = some (some (.int 300 t_g_MOST_SOFT)))
    (z_g_MOST_WEIGHT : PySem.W.nsIn K mainGlobals "MOST_WEIGHT" = some (some (.int 1000000000 t_g_MOST_WEIGHT)))
    (z_g_MOST_NAMES : PySem.W.nsIn K mainGlobals "MOST_NAMES" = some (some (.int 60 t_g_MOST_NAMES)))
    (z_g_MOST_ITEMS : PySem.W.nsIn K mainGlobals "MOST_ITEMS" = some (some (.int 40 t_g_MOST_ITEMS)))
    (z_g_MOST_NUMBER : PySem.W.nsIn K mainGlobals "MOST_NUMBER" = some (some (.int 1000000 t_g_MOST_NUMBER)))
    (z_SIGNS : PySem.W.nsIn K mainGlobals "SIGNS" = some (some (.ref a_SIGNS)))
    (y_SIGNS : K.lookup a_SIGNS = some ⟨.type "tuple", od_SIGNS, .seq #[.str "not" t0_SIGNS, .str "and" t1_SIGNS, .str "or" t2_SIGNS, .str "then" t3_SIGNS, .str "same" t4_SIGNS, .str "unlike" t5_SIGNS, .str "least" t6_SIGNS, .str "most" t7_SIGNS] n_SIGNS, sl_SIGNS⟩)
    : ∃ fd : FuncData, (∀ (s : Shared) (v : Value), BindsTo s fd ⟨[v], []⟩ [("script", v)]) ∧ ∀ base : Heap, K.In base → base.Ns mainGlobals mg → FnOk PySem.Challenge.rw_coresprice_k94_whole_prices_of_rows_by_a.prog w K mg base CX0 12 fa fd ["script"] (spD K ct_law) := by
  have e := hfa.symm.trans (PySem.W.mg_of X G a44)
  cases e
  have cl_Problem : Cls K CProblem := ⟨pg_Problem, hd_Problem, po_Problem, sa_Problem⟩
  have cl_Model : Cls K CModel := ⟨pg_Model, hd_Model, po_Model, sa_Model⟩
  have cl_Program : Cls K CProgram := ⟨pg_Program, hd_Program, po_Program, sa_Program⟩
  have G1 := fun_mk (st := s_is_clause) l1 c1 k1
  have B1 := G1.binds (ps := ["clause", "count"]) fun _ _ _ _ _ _ us hl => match us, hl with | [_, _], _ => rfl
  have F_is_clause : FunAt K mg "is_clause" s_is_clause ["clause", "count"] := ⟨_, _, PySem.W.mg_of X G a1, G1, B1⟩
  have G2 := fun_mk (st := s_is_true) l2 c2 k2
  have B2 := G2.binds (ps := ["literal", "values"]) fun _ _ _ _ _ _ us hl => match us, hl with | [_, _], _ => rfl
  have F_is_true : FunAt K mg "is_true" s_is_true ["literal", "values"] := ⟨_, _, PySem.W.mg_of X G a2, G2, B2⟩
  have G3 := fun_mk (st := s_holds) l3 c3 k3
  have B3 := G3.binds (ps := ["clause", "values"]) fun _ _ _ _ _ _ us hl => match us, hl with | [_, _], _ => rfl
  have F_holds : FunAt K mg "holds" s_holds ["clause", "values"] := ⟨_, _, PySem.W.mg_of X G a3, G3, B3⟩
  have G4 := fun_mk (st := s_are_values) l4 c4 k4
  have B4 := G4.binds (ps := ["values", "count"]) fun _ _ _ _ _ _ us hl => match us, hl with | [_, _], _ => rfl
  have F_are_values : FunAt K mg "are_values" s_are_values ["values", "count"] := ⟨_, _, PySem.W.mg_of X G a4, G4, B4⟩
  have G5 := fun_mk (st := s_Problem_init) l5 c5 k5
  have B5 := G5.binds (ps := ["self", "count", "hard", "soft"]) fun _ _ _ _ _ _ us hl => match us, hl with | [_, _, _, _], _ => rfl
  have F_Problem_init : InitAt K mg "Problem" CProblem "__init__" "Problem.__init__" s_Problem_init ["self", "count", "hard", "soft"] := ⟨_, _, ⟨mk_Problem, a5, i5, kc_Problem⟩, PySem.W.mg_of X G cA_Problem, G5, B5⟩
  have G6 := fun_mk (st := s_Problem_payer) l6 c6 k6
  have B6 := G6.binds (ps := ["self", "at"]) fun _ _ _ _ _ _ us hl => match us, hl with | [_, _], _ => rfl
  have F_Problem_payer : MethAt K CProblem "payer" "Problem.payer" s_Problem_payer ["self", "at"] := ⟨_, _, ⟨a6, i6, k6⟩, G6, B6⟩
  have G7 := fun_mk (st := s_Problem_base) l7 c7 k7
  have B7 := G7.binds (ps := ["self"]) fun _ _ _ _ _ _ us hl => match us, hl with | [_], _ => rfl
  have F_Problem_base : MethAt K CProblem "base" "Problem.base" s_Problem_base ["self"] := ⟨_, _, ⟨a7, i7, k7⟩, G7, B7⟩
  have G8 := fun_mk (st := s_Problem_whole_price) l8 c8 k8
  have B8 := G8.binds (ps := ["self"]) fun _ _ _ _ _ _ us hl => match us, hl with | [_], _ => rfl
  have F_Problem_whole_price : MethAt K CProblem "whole_price" "Problem.whole_price" s_Problem_whole_price ["self"] := ⟨_, _, ⟨a8, i8, k8⟩, G8, B8⟩
  have G9 := fun_mk (st := s_is_soft) l9 c9 k9
  have B9 := G9.binds (ps := ["one", "count"]) fun _ _ _ _ _ _ us hl => match us, hl with | [_, _], _ => rfl
  have F_is_soft : FunAt K mg "is_soft" s_is_soft ["one", "count"] := ⟨_, _, PySem.W.mg_of X G a9, G9, B9⟩
  have G10 := fun_mk (st := s_checked_values) l10 c10 k10
  have B10 := G10.binds (ps := ["problem", "values"]) fun _ _ _ _ _ _ us hl => match us, hl with | [_, _], _ => rfl
  have F_checked_values : FunAt K mg "checked_values" s_checked_values ["problem", "values"] := ⟨_, _, PySem.W.mg_of X G a10, G10, B10⟩
  have G11 := fun_mk (st := s_broken) l11 c11 k11
  have B11 := G11.binds (ps := ["problem", "values"]) fun _ _ _ _ _ _ us hl => match us, hl with | [_, _], _ => rfl
  have F_broken : FunAt K mg "broken" s_broken ["problem", "values"] := ⟨_, _, PySem.W.mg_of X G a11, G11, B11⟩
  have G12 := fun_mk (st := s_price_of) l12 c12 k12
  have B12 := G12.binds (ps := ["problem", "values"]) fun _ _ _ _ _ _ us hl => match us, hl with | [_, _], _ => rfl
  have F_price_of : FunAt K mg "price_of" s_price_of ["problem", "values"] := ⟨_, _, PySem.W.mg_of X G a12, G12, B12⟩
  have G13 := fun_mk (st := s_unpaid) l13 c13 k13
  have B13 := G13.binds (ps := ["problem", "values"]) fun _ _ _ _ _ _ us hl => match us, hl with | [_, _], _ => rfl
  have F_unpaid : FunAt K mg "unpaid" s_unpaid ["problem", "values"] := ⟨_, _, PySem.W.mg_of X G a13, G13, B13⟩
  have G14 := fun_mk (st := s_cheapest_of) l14 c14 k14
  have B14 := G14.binds (ps := ["problem", "rows"]) fun _ _ _ _ _ _ us hl => match us, hl with | [_, _], _ => rfl
  have F_cheapest_of : FunAt K mg "cheapest_of" s_cheapest_of ["problem", "rows"] := ⟨_, _, PySem.W.mg_of X G a14, G14, B14⟩
  have G15 := fun_mk (st := s_priced) l15 c15 k15
  have B15 := G15.binds (ps := ["problem", "values"]) fun _ _ _ _ _ _ us hl => match us, hl with | [_, _], _ => rfl
  have F_priced : FunAt K mg "priced" s_priced ["problem", "values"] := ⟨_, _, PySem.W.mg_of X G a15, G15, B15⟩
  have G16 := fun_mk (st := s_priced_right) l16 c16 k16
  have B16 := G16.binds (ps := ["claim"]) fun _ _ _ _ _ _ us hl => match us, hl with | [_], _ => rfl
  have F_priced_right : FunAt K mg "priced_right" s_priced_right ["claim"] := ⟨_, _, PySem.W.mg_of X G a16, G16, B16⟩
  have G17 := fun_mk (st := s_full_values) l17 c17 k17
  have B17 := G17.binds (ps := ["problem", "values"]) fun _ _ _ _ _ _ us hl => match us, hl with | [_, _], _ => rfl
  have F_full_values : FunAt K mg "full_values" s_full_values ["problem", "values"] := ⟨_, _, PySem.W.mg_of X G a17, G17, B17⟩
  have G18 := fun_mk (st := s_is_name) l18 c18 k18
  have B18 := G18.binds (ps := ["word"]) fun _ _ _ _ _ _ us hl => match us, hl with | [_], _ => rfl
  have F_is_name : FunAt K mg "is_name" s_is_name ["word"] := ⟨_, _, PySem.W.mg_of X G a18, G18, B18⟩
  have G19 := fun_mk (st := s_names_in) l19 c19 k19
  have B19 := G19.binds (ps := ["term"]) fun _ _ _ _ _ _ us hl => match us, hl with | [_], _ => rfl
  have F_names_in : FunAt K mg "names_in" s_names_in ["term"] := ⟨_, _, PySem.W.mg_of X G a19, G19, B19⟩
  have G20 := fun_mk (st := s_value_of) l20 c20 k20
  have B20 := G20.binds (ps := ["term", "values"]) fun _ _ _ _ _ _ us hl => match us, hl with | [_, _], _ => rfl
  have F_value_of : FunAt K mg "value_of" s_value_of ["term", "values"] := ⟨_, _, PySem.W.mg_of X G a20, G20, B20⟩
  have G21 := fun_mk (st := s_row_of) l21 c21 k21
  have B21 := G21.binds (ps := ["pairs", "degree"]) fun _ _ _ _ _ _ us hl => match us, hl with | [_, _], _ => rfl
  have F_row_of : FunAt K mg "row_of" s_row_of ["pairs", "degree"] := ⟨_, _, PySem.W.mg_of X G a21, G21, B21⟩
  have G22 := fun_mk (st := s_Model_init) l22 c22 k22
  have B22 := G22.binds (ps := ["self", "names", "rules", "costs"]) fun _ _ _ _ _ _ us hl => match us, hl with | [_, _, _, _], _ => rfl
  have F_Model_init : InitAt K mg "Model" CModel "__init__" "Model.__init__" s_Model_init ["self", "names", "rules", "costs"] := ⟨_, _, ⟨mk_Model, a22, i22, kc_Model⟩, PySem.W.mg_of X G cA_Model, G22, B22⟩
  have G23 := fun_mk (st := s_Model_keeps) l23 c23 k23
  have B23 := G23.binds (ps := ["self", "values"]) fun _ _ _ _ _ _ us hl => match us, hl with | [_, _], _ => rfl
  have F_Model_keeps : MethAt K CModel "keeps" "Model.keeps" s_Model_keeps ["self", "values"] := ⟨_, _, ⟨a23, i23, k23⟩, G23, B23⟩
  have G24 := fun_mk (st := s_Model_price) l24 c24 k24
  have B24 := G24.binds (ps := ["self", "values"]) fun _ _ _ _ _ _ us hl => match us, hl with | [_, _], _ => rfl
  have F_Model_price : MethAt K CModel "price" "Model.price" s_Model_price ["self", "values"] := ⟨_, _, ⟨a24, i24, k24⟩, G24, B24⟩
  have G25 := fun_mk (st := s_Program_init) l25 c25 k25
  have B25 := G25.binds (ps := ["self", "count", "rows", "costs"]) fun _ _ _ _ _ _ us hl => match us, hl with | [_, _, _, _], _ => rfl
  have F_Program_init : InitAt K mg "Program" CProgram "__init__" "Program.__init__" s_Program_init ["self", "count", "rows", "costs"] := ⟨_, _, ⟨mk_Program, a25, i25, kc_Program⟩, PySem.W.mg_of X G cA_Program, G25, B25⟩
  have G26 := fun_mk (st := s_Program_cost) l26 c26 k26
  have B26 := G26.binds (ps := ["self", "values"]) fun _ _ _ _ _ _ us hl => match us, hl with | [_, _], _ => rfl
  have F_Program_cost : MethAt K CProgram "cost" "Program.cost" s_Program_cost ["self", "values"] := ⟨_, _, ⟨a26, i26, k26⟩, G26, B26⟩
  have G27 := fun_mk (st := s_is_term) l27 c27 k27
  have B27 := G27.binds (ps := ["term", "count"]) fun _ _ _ _ _ _ us hl => match us, hl with | [_, _], _ => rfl
  have F_is_term : FunAt K mg "is_term" s_is_term ["term", "count"] := ⟨_, _, PySem.W.mg_of X G a27, G27, B27⟩
  have G28 := fun_mk (st := s_is_cost) l28 c28 k28
  have B28 := G28.binds (ps := ["cost", "count"]) fun _ _ _ _ _ _ us hl => match us, hl with | [_, _], _ => rfl
  have F_is_cost : FunAt K mg "is_cost" s_is_cost ["cost", "count"] := ⟨_, _, PySem.W.mg_of X G a28, G28, B28⟩
  have G29 := fun_mk (st := s_weight_of) l29 c29 k29
  have B29 := G29.binds (ps := ["terms", "values"]) fun _ _ _ _ _ _ us hl => match us, hl with | [_, _], _ => rfl
  have F_weight_of : FunAt K mg "weight_of" s_weight_of ["terms", "values"] := ⟨_, _, PySem.W.mg_of X G a29, G29, B29⟩
  have G30 := fun_mk (st := s_second_price) l30 c30 k30
  have B30 := G30.binds (ps := ["problem", "seconds", "values"]) fun _ _ _ _ _ _ us hl => match us, hl with | [_, _, _], _ => rfl
  have F_second_price : FunAt K mg "second_price" s_second_price ["problem", "seconds", "values"] := ⟨_, _, PySem.W.mg_of X G a30, G30, B30⟩
  have G31 := fun_mk (st := s_prices_of) l31 c31 k31
  have B31 := G31.binds (ps := ["problem", "lists", "values"]) fun _ _ _ _ _ _ us hl => match us, hl with | [_, _, _], _ => rfl
  have F_prices_of : FunAt K mg "prices_of" s_prices_of ["problem", "lists", "values"] := ⟨_, _, PySem.W.mg_of X G a31, G31, B31⟩
  have G32 := fun_mk (st := s_law_pool) l32 c32 k32
  have B32 := G32.binds (ps := ["script", "budget"]) fun _ _ _ _ _ _ us hl => match us, hl with | [_, _], _ => rfl
  have F_law_pool : FunAt K mg "_law_pool" s_law_pool ["script", "budget"] := ⟨_, _, PySem.W.mg_of X G a32, G32, B32⟩
  have G33 := fun_mk (st := s_law_draw) l33 c33 k33
  have B33 := G33.binds (ps := ["pool", "size"]) fun _ _ _ _ _ _ us hl => match us, hl with | [_, _], _ => rfl
  have F_law_draw : FunAt K mg "_law_draw" s_law_draw ["pool", "size"] := ⟨_, _, PySem.W.mg_of X G a33, G33, B33⟩
  have G34 := fun_mk (st := s_law_same) l34 c34 k34
  have B34 := G34.binds (ps := ["actual", "due"]) fun _ _ _ _ _ _ us hl => match us, hl with | [_, _], _ => rfl
  have F_law_same : FunAt K mg "_law_same" s_law_same ["actual", "due"] := ⟨_, _, PySem.W.mg_of X G a34, G34, B34⟩
  have G35 := fun_mk (st := s_law_literals) l35 c35 k35
  have B35 := G35.binds (ps := ["pool", "count", "most"]) fun _ _ _ _ _ _ us hl => match us, hl with | [_, _, _], _ => rfl
  have F_law_literals : FunAt K mg "_law_literals" s_law_literals ["pool", "count", "most"] := ⟨_, _, PySem.W.mg_of X G a35, G35, B35⟩
  have G36 := fun_mk (st := s_law_problem) l36 c36 k36
  have B36 := G36.binds (ps := ["pool", "most", "hards", "softs", "weight"]) fun _ _ _ _ _ _ us hl => match us, hl with | [_, _, _, _, _], _ => rfl
  have F_law_problem : FunAt K mg "_law_problem" s_law_problem ["pool", "most", "hards", "softs", "weight"] := ⟨_, _, PySem.W.mg_of X G a36, G36, B36⟩
  have G37 := fun_mk (st := s_law_doubled) l37 c37 k37
  have B37 := G37.binds (ps := ["pool", "count", "hard", "soft"]) fun _ _ _ _ _ _ us hl => match us, hl with | [_, _, _, _], _ => rfl
  have F_law_doubled : FunAt K mg "_law_doubled" s_law_doubled ["pool", "count", "hard", "soft"] := ⟨_, _, PySem.W.mg_of X G a37, G37, B37⟩
  have G38 := fun_mk (st := s_law_rows) l38 c38 k38
  have B38 := G38.binds (ps := ["count"]) fun _ _ _ _ _ _ us hl => match us, hl with | [_], _ => rfl
  have F_law_rows : FunAt K mg "_law_rows" s_law_rows ["count"] := ⟨_, _, PySem.W.mg_of X G a38, G38, B38⟩
  have G39 := fun_mk (st := s_law_holds) l39 c39 k39
  have B39 := G39.binds (ps := ["clause", "values"]) fun _ _ _ _ _ _ us hl => match us, hl with | [_, _], _ => rfl
  have F_law_holds : FunAt K mg "_law_holds" s_law_holds ["clause", "values"] := ⟨_, _, PySem.W.mg_of X G a39, G39, B39⟩
  have G40 := fun_mk (st := s_law_good) l40 c40 k40
  have B40 := G40.binds (ps := ["hard", "values"]) fun _ _ _ _ _ _ us hl => match us, hl with | [_, _], _ => rfl
  have F_law_good : FunAt K mg "_law_good" s_law_good ["hard", "values"] := ⟨_, _, PySem.W.mg_of X G a40, G40, B40⟩
  have G41 := fun_mk (st := s_law_price) l41 c41 k41
  have B41 := G41.binds (ps := ["soft", "values"]) fun _ _ _ _ _ _ us hl => match us, hl with | [_, _], _ => rfl
  have F_law_price : FunAt K mg "_law_price" s_law_price ["soft", "values"] := ⟨_, _, PySem.W.mg_of X G a41, G41, B41⟩
  have G42 := fun_mk (st := s_law_base) l42 c42 k42
  have B42 := G42.binds (ps := ["count", "hard", "soft"]) fun _ _ _ _ _ _ us hl => match us, hl with | [_, _, _], _ => rfl
  have F_law_base : FunAt K mg "_law_base" s_law_base ["count", "hard", "soft"] := ⟨_, _, PySem.W.mg_of X G a42, G42, B42⟩
  have G43 := fun_mk (st := s_law_as_term) l43 c43 k43
  have B43 := G43.binds (ps := ["clause"]) fun _ _ _ _ _ _ us hl => match us, hl with | [_], _ => rfl
  have F_law_as_term : FunAt K mg "_law_as_term" s_law_as_term ["clause"] := ⟨_, _, PySem.W.mg_of X G a43, G43, B43⟩
  have G44 := fun_mk (st := s_law) l44 c44 k44
  have B44 := G44.binds (ps := ["script"]) fun _ _ _ _ _ _ us hl => match us, hl with | [_], _ => rfl
  have F_law : FunAt K mg "law" s_law ["script"] := ⟨_, _, PySem.W.mg_of X G a44, G44, B44⟩
  have gS : ∃ a : Addr, mg "SIGNS" = some (.ref a) ∧ TupS K a SIGNSs := ⟨_, PySem.W.mg_of X G z_SIGNS, _, _, _, y_SIGNS, rfl, rfl, (show (8 : Nat) ≤ sizeLine by decide), (.cons ⟨_, rfl⟩ (.cons ⟨_, rfl⟩ (.cons ⟨_, rfl⟩ (.cons ⟨_, rfl⟩ (.cons ⟨_, rfl⟩ (.cons ⟨_, rfl⟩ (.cons ⟨_, rfl⟩ (.cons ⟨_, rfl⟩ .nil))))))))⟩
  have T : Txt K mg CProblem CModel CProgram := ⟨cl_Problem, z_f_Problem_count, z_f_Problem_hard, z_f_Problem_soft, cl_Model, z_f_Model_names, z_f_Model_rules, z_f_Model_costs, cl_Program, z_f_Program_count, z_f_Program_rows, z_f_Program_costs, PySem.W.mg_none_of X G z_n_sum, PySem.W.mg_none_of X G z_n_any, PySem.W.mg_none_of X G z_n_all, PySem.W.mg_none_of X G z_n_min, PySem.W.mg_none_of X G z_n_max, PySem.W.mg_none_of X G z_n_enumerate, PySem.W.mg_none_of X G z_n_list, PySem.W.mg_none_of X G z_n_tuple, PySem.W.mg_none_of X G z_n_sorted, PySem.W.mg_none_of X G z_n_len, PySem.W.mg_none_of X G z_n_range, PySem.W.mg_none_of X G z_n_dict, PySem.W.mg_none_of X G z_n_set, PySem.W.mg_none_of X G z_n_int, PySem.W.mg_none_of X G z_n_isinstance, PySem.W.mg_none_of X G z_n_str, PySem.W.mg_none_of X G z_n_bool, PySem.W.mg_none_of X G z_n_zip, PySem.W.mg_none_of X G z_n_abs, ⟨_, PySem.W.mg_of X G z_g_MOST_COUNT⟩, ⟨_, PySem.W.mg_of X G z_g_MOST_HARD⟩, ⟨_, PySem.W.mg_of X G z_g_MOST_SOFT⟩, ⟨_, PySem.W.mg_of X G z_g_MOST_WEIGHT⟩, ⟨_, PySem.W.mg_of X G z_g_MOST_NAMES⟩, ⟨_, PySem.W.mg_of X G z_g_MOST_ITEMS⟩, ⟨_, PySem.W.mg_of X G z_g_MOST_NUMBER⟩⟩
  refine ⟨PySem.W.fnOf "law" "law" (defArgs s_law) (defBody s_law) (defScope s_law) .none kV44 dc44 pm44 an44 cd44 ct44, fun s v => .of_eq rfl, fun base _ _ => ?_⟩
  have F_law0 := G44
  have h_is_clause := c_is_clause (P := PySem.Challenge.rw_coresprice_k94_whole_prices_of_rows_by_a.prog) (w := w) (base := base) F_is_clause T
  have h_is_true := c_is_true (P := PySem.Challenge.rw_coresprice_k94_whole_prices_of_rows_by_a.prog) (w := w) (base := base) F_is_true T
  have h_holds := c_holds (P := PySem.Challenge.rw_coresprice_k94_whole_prices_of_rows_by_a.prog) (w := w) (base := base) F_holds T h_is_true
  have h_are_values := c_are_values (P := PySem.Challenge.rw_coresprice_k94_whole_prices_of_rows_by_a.prog) (w := w) (base := base) F_are_values T
  have h_is_soft := c_is_soft (P := PySem.Challenge.rw_coresprice_k94_whole_prices_of_rows_by_a.prog) (w := w) (base := base) F_is_soft T h_is_clause
  have h_Problem := c_Problem (P := PySem.Challenge.rw_coresprice_k94_whole_prices_of_rows_by_a.prog) (w := w) (base := base) F_Problem_init T h_is_clause h_is_soft
  have h_Problem_payer := c_Problem_payer (P := PySem.Challenge.rw_coresprice_k94_whole_prices_of_rows_by_a.prog) (w := w) (base := base) F_Problem_payer T
  have h_Problem_base := c_Problem_base (P := PySem.Challenge.rw_coresprice_k94_whole_prices_of_rows_by_a.prog) (w := w) (base := base) F_Problem_base T h_Problem_payer
  have h_Problem_whole_price := c_Problem_whole_price (P := PySem.Challenge.rw_coresprice_k94_whole_prices_of_rows_by_a.prog) (w := w) (base := base) F_Problem_whole_price T
  have h_law_pool := c_law_pool (P := PySem.Challenge.rw_coresprice_k94_whole_prices_of_rows_by_a.prog) (w := w) (base := base) F_law_pool T
  have h_law_draw := c_law_draw (P := PySem.Challenge.rw_coresprice_k94_whole_prices_of_rows_by_a.prog) (w := w) (base := base) F_law_draw T
  have h_law_same := c_law_same (P := PySem.Challenge.rw_coresprice_k94_whole_prices_of_rows_by_a.prog) (w := w) (base := base) F_law_same T
  have h_law_literals := c_law_literals (P := PySem.Challenge.rw_coresprice_k94_whole_prices_of_rows_by_a.prog) (w := w) (base := base) F_law_literals T h_law_draw
  have h_law_problem := c_law_problem (P := PySem.Challenge.rw_coresprice_k94_whole_prices_of_rows_by_a.prog) (w := w) (base := base) F_law_problem T h_law_draw h_law_literals
  have h_law_doubled := c_law_doubled (P := PySem.Challenge.rw_coresprice_k94_whole_prices_of_rows_by_a.prog) (w := w) (base := base) F_law_doubled T h_law_draw
  have h_law_rows := c_law_rows (P := PySem.Challenge.rw_coresprice_k94_whole_prices_of_rows_by_a.prog) (w := w) (base := base) F_law_rows T
  have h_law_holds := c_law_holds (P := PySem.Challenge.rw_coresprice_k94_whole_prices_of_rows_by_a.prog) (w := w) (base := base) F_law_holds T
  have h_law_good := c_law_good (P := PySem.Challenge.rw_coresprice_k94_whole_prices_of_rows_by_a.prog) (w := w) (base := base) F_law_good T h_law_holds
  have h_law_price := c_law_price (P := PySem.Challenge.rw_coresprice_k94_whole_prices_of_rows_by_a.prog) (w := w) (base := base) F_law_price T h_law_holds
  have h_checked_values := c_checked_values (P := PySem.Challenge.rw_coresprice_k94_whole_prices_of_rows_by_a.prog) (w := w) (base := base) F_checked_values T h_are_values
  have h_broken := c_broken (P := PySem.Challenge.rw_coresprice_k94_whole_prices_of_rows_by_a.prog) (w := w) (base := base) F_broken T h_checked_values h_holds
  have h_price_of := c_price_of (P := PySem.Challenge.rw_coresprice_k94_whole_prices_of_rows_by_a.prog) (w := w) (base := base) F_price_of T h_checked_values h_holds
  have h_unpaid := c_unpaid (P := PySem.Challenge.rw_coresprice_k94_whole_prices_of_rows_by_a.prog) (w := w) (base := base) F_unpaid T h_checked_values h_holds
  have h_cheapest_of := c_cheapest_of (P := PySem.Challenge.rw_coresprice_k94_whole_prices_of_rows_by_a.prog) (w := w) (base := base) F_cheapest_of T h_checked_values h_broken h_price_of
  have h_priced := c_priced (P := PySem.Challenge.rw_coresprice_k94_whole_prices_of_rows_by_a.prog) (w := w) (base := base) F_priced T h_checked_values h_broken h_price_of
  have h_priced_right := c_priced_right (P := PySem.Challenge.rw_coresprice_k94_whole_prices_of_rows_by_a.prog) (w := w) (base := base) F_priced_right T h_are_values h_holds h_broken h_price_of
  have h_full_values := c_full_values (P := PySem.Challenge.rw_coresprice_k94_whole_prices_of_rows_by_a.prog) (w := w) (base := base) F_full_values T h_unpaid
  have h_second_price := c_second_price (P := PySem.Challenge.rw_coresprice_k94_whole_prices_of_rows_by_a.prog) (w := w) (base := base) F_second_price T
  have h_prices_of := c_prices_of (P := PySem.Challenge.rw_coresprice_k94_whole_prices_of_rows_by_a.prog) (w := w) (base := base) F_prices_of T h_second_price
  have h_law_base := c_law_base (P := PySem.Challenge.rw_coresprice_k94_whole_prices_of_rows_by_a.prog) (w := w) (base := base) F_law_base T
  have h_law_as_term := c_law_as_term (P := PySem.Challenge.rw_coresprice_k94_whole_prices_of_rows_by_a.prog) (w := w) (base := base) F_law_as_term T
  have h_is_name := c_is_name (P := PySem.Challenge.rw_coresprice_k94_whole_prices_of_rows_by_a.prog) (w := w) (base := base) F_is_name T gS
  have h_value_of := c_value_of (P := PySem.Challenge.rw_coresprice_k94_whole_prices_of_rows_by_a.prog) (w := w) (base := base) F_value_of T
  have h_names_in := c_names_in (P := PySem.Challenge.rw_coresprice_k94_whole_prices_of_rows_by_a.prog) (w := w) (base := base) F_names_in T
  have h_Model := c_Model (P := PySem.Challenge.rw_coresprice_k94_whole_prices_of_rows_by_a.prog) (w := w) (base := base) F_Model_init T h_is_name h_names_in
  have h_Model_keeps := c_Model_keeps (P := PySem.Challenge.rw_coresprice_k94_whole_prices_of_rows_by_a.prog) (w := w) (base := base) F_Model_keeps T (h_value_of 3)
  have h_Model_price := c_Model_price (P := PySem.Challenge.rw_coresprice_k94_whole_prices_of_rows_by_a.prog) (w := w) (base := base) F_Model_price T (h_value_of 3)
  have h_is_cost := c_is_cost (P := PySem.Challenge.rw_coresprice_k94_whole_prices_of_rows_by_a.prog) (w := w) (base := base) F_is_cost T
  have h_weight_of := c_weight_of (P := PySem.Challenge.rw_coresprice_k94_whole_prices_of_rows_by_a.prog) (w := w) (base := base) F_weight_of T h_is_true
  have h_Program_cost := c_Program_cost (P := PySem.Challenge.rw_coresprice_k94_whole_prices_of_rows_by_a.prog) (w := w) (base := base) F_Program_cost T h_weight_of
  have h_is_term := cal_no (P := PySem.Challenge.rw_coresprice_k94_whole_prices_of_rows_by_a.prog) (w := w) (base := base) (k := 1) (C := ct_never) F_is_term fun _ _ z => z
  have h_row_of := cal_no (P := PySem.Challenge.rw_coresprice_k94_whole_prices_of_rows_by_a.prog) (w := w) (base := base) (k := 1) (C := ct_never) F_row_of fun _ _ z => z
  have h_Program := c_Program (P := PySem.Challenge.rw_coresprice_k94_whole_prices_of_rows_by_a.prog) (w := w) (base := base) F_Program_init T h_is_cost h_is_term h_row_of
  exact c_law F_law0 T h_law_pool h_law_draw h_law_problem h_law_doubled h_Problem h_Model h_Program h_law_as_term h_Problem_payer h_Problem_base h_Problem_whole_price h_law_base (h_law_same 6) h_law_rows h_law_holds h_price_of h_second_price h_prices_of h_Program_cost h_Model_price h_unpaid h_full_values h_broken h_Model_keeps h_priced h_priced_right h_law_good h_law_price h_cheapest_of
theorem law_hsp (K : PySem.W.Frag) (H : Hp) (a : Addr) (ns : List Int) (hn : ns.length ≤ 63) (hS : SqL K H a (ns.map V.int)) : spD K ct_law [.ref a] H (fun v _ => v = .bl true) fun _ _ _ => False := by
  refine ⟨[.q ns], fun d _ => d = .bl true, H, fun _ => none, ⟨ns, rfl, rfl⟩, ⟨rfl, fun a o h => (by cases h), Ex.refl _, fun i m h => ?_, fun i j x y hx hy ox oy e => ?_, fun i hi => (by cases hi)⟩, fun d S' v H0' H' hd _ _ hp => (by subst hd; exact hp)⟩
  · match i, h with
    | 0, h => cases h; exact ⟨_, rfl, a, rfl, hS⟩
  · match i, hx with
    | 0, hx => cases hx; cases ox
end Lw
open PySem PySem.W PyProof.Rows
set_option maxRecDepth 100000 in
set_option maxHeartbeats 0 in
theorem PySem.Challenge.cw_coresprice_k94_whole_prices_of_rows_by_a_holds : PySem.Challenge.rw_coresprice_k94_whole_prices_of_rows_by_a.Holds := by
  w_on; o_law; k_head; (case hw => w_witness2)
  k_fill
  refine L2.walk_of (l := PySem.Challenge.rw_coresprice_k94_whole_prices_of_rows_by_a) (n := 63) (k := 12) (x := "script") (CX := fun _ => L2.CX0) (sp := fun w => Dl.spD _ Lw.ct_law) rfl (by decide) rfl ⟨rfl, by decide, by decide⟩ (fun w h Y => PySem.W.kIn_of Y) ?F (fun _ _ a ns hl _ hS => Lw.law_hsp _ _ a ns hl hS) (fun _ _ _ _ _ h => h)
  case F =>
    intro w mg fa h KX G hmg
    refine' Lw.all_mk KX G hmg ?cA_Problem ?pg_Problem ?hd_Problem ?po_Problem ?sa_Problem ?mk_Problem ?kc_Problem ?cA_Model ?pg_Model ?hd_Model ?po_Model ?sa_Model ?mk_Model ?kc_Model ?cA_Program ?pg_Program ?hd_Program ?po_Program ?sa_Program ?mk_Program ?kc_Program ?a1 ?l1 ?c1 ?k1 ?a2 ?l2 ?c2 ?k2 ?a3 ?l3 ?c3 ?k3 ?a4 ?l4 ?c4 ?k4 ?a5 ?i5 ?l5 ?c5 ?k5 ?a6 ?i6 ?l6 ?c6 ?k6 ?a7 ?i7 ?l7 ?c7 ?k7 ?a8 ?i8 ?l8 ?c8 ?k8 ?a9 ?l9 ?c9 ?k9 ?a10 ?l10 ?c10 ?k10 ?a11 ?l11 ?c11 ?k11 ?a12 ?l12 ?c12 ?k12 ?a13 ?l13 ?c13 ?k13 ?a14 ?l14 ?c14 ?k14 ?a15 ?l15 ?c15 ?k15 ?a16 ?l16 ?c16 ?k16 ?a17 ?l17 ?c17 ?k17 ?a18 ?l18 ?c18 ?k18 ?a19 ?l19 ?c19 ?k19 ?a20 ?l20 ?c20 ?k20 ?a21 ?l21 ?c21 ?k21 ?a22 ?i22 ?l22 ?c22 ?k22 ?a23 ?i23 ?l23 ?c23 ?k23 ?a24 ?i24 ?l24 ?c24 ?k24 ?a25 ?i25 ?l25 ?c25 ?k25 ?a26 ?i26 ?l26 ?c26 ?k26 ?a27 ?l27 ?c27 ?k27 ?a28 ?l28 ?c28 ?k28 ?a29 ?l29 ?c29 ?k29 ?a30 ?l30 ?c30 ?k30 ?a31 ?l31 ?c31 ?k31 ?a32 ?l32 ?c32 ?k32 ?a33 ?l33 ?c33 ?k33 ?a34 ?l34 ?c34 ?k34 ?a35 ?l35 ?c35 ?k35 ?a36 ?l36 ?c36 ?k36 ?a37 ?l37 ?c37 ?k37 ?a38 ?l38 ?c38 ?k38 ?a39 ?l39 ?c39 ?k39 ?a40 ?l40 ?c40 ?k40 ?a41 ?l41 ?c41 ?k41 ?a42 ?l42 ?c42 ?k42 ?a43 ?l43 ?c43 ?k43 ?a44 ?l44 ?c44 ?k44 ?z_f_Problem_count ?z_f_Problem_hard ?z_f_Problem_soft ?z_f_Model_names ?z_f_Model_rules ?z_f_Model_costs ?z_f_Program_count ?z_f_Program_rows ?z_f_Program_costs ?z_n_sum ?z_n_any ?z_n_all ?z_n_min ?z_n_max ?z_n_enumerate ?z_n_list ?z_n_tuple ?z_n_sorted ?z_n_len ?z_n_range ?z_n_dict ?z_n_set ?z_n_int ?z_n_isinstance ?z_n_str ?z_n_bool ?z_n_zip ?z_n_abs ?z_g_MOST_COUNT ?z_g_MOST_HARD ?z_g_MOST_SOFT ?z_g_MOST_WEIGHT ?z_g_MOST_NAMES ?z_g_MOST_ITEMS ?z_g_MOST_NUMBER ?z_SIGNS ?y_SIGNS
    (case cA_Problem => k_is)
    (case pg_Problem => k_is)
    (case hd_Problem => k_is)
    (case po_Problem => k_is)
    (case sa_Problem => k_is)
    (case mk_Problem => k_is)
    (case kc_Problem => k_is)
    (case cA_Model => k_is)
    (case pg_Model => k_is)
    (case hd_Model => k_is)
    (case po_Model => k_is)
    (case sa_Model => k_is)
    (case mk_Model => k_is)
    (case kc_Model => k_is)
    (case cA_Program => k_is)
    (case pg_Program => k_is)
    (case hd_Program => k_is)
    (case po_Program => k_is)
    (case sa_Program => k_is)
    (case mk_Program => k_is)
    (case kc_Program => k_is)
    (case a1 => k_is)
    (case l1 => k_is)
    (case c1 => k_is)
    (case k1 => k_is)
    (case a2 => k_is)
    (case l2 => k_is)
    (case c2 => k_is)
    (case k2 => k_is)
    (case a3 => k_is)
    (case l3 => k_is)
    (case c3 => k_is)
    (case k3 => k_is)
    (case a4 => k_is)
    (case l4 => k_is)
    (case c4 => k_is)
    (case k4 => k_is)
    (case a5 => k_is)
    (case i5 => k_is)
    (case l5 => k_is)
    (case c5 => k_is)
    (case k5 => k_is)
    (case a6 => k_is)
    (case i6 => k_is)
    (case l6 => k_is)
    (case c6 => k_is)
    (case k6 => k_is)
    (case a7 => k_is)
    (case i7 => k_is)
    (case l7 => k_is)
    (case c7 => k_is)
    (case k7 => k_is)
    (case a8 => k_is)
    (case i8 => k_is)
    (case l8 => k_is)
    (case c8 => k_is)
    (case k8 => k_is)
    (case a9 => k_is)
    (case l9 => k_is)
    (case c9 => k_is)
    (case k9 => k_is)
    (case a10 => k_is)
    (case l10 => k_is)
    (case c10 => k_is)
    (case k10 => k_is)
    (case a11 => k_is)
    (case l11 => k_is)
    (case c11 => k_is)
    (case k11 => k_is)
    (case a12 => k_is)
    (case l12 => k_is)
    (case c12 => k_is)
    (case k12 => k_is)
    (case a13 => k_is)
    (case l13 => k_is)
    (case c13 => k_is)
    (case k13 => k_is)
    (case a14 => k_is)
    (case l14 => k_is)
    (case c14 => k_is)
    (case k14 => k_is)
    (case a15 => k_is)
    (case l15 => k_is)
    (case c15 => k_is)
    (case k15 => k_is)
    (case a16 => k_is)
    (case l16 => k_is)
    (case c16 => k_is)
    (case k16 => k_is)
    (case a17 => k_is)
    (case l17 => k_is)
    (case c17 => k_is)
    (case k17 => k_is)
    (case a18 => k_is)
    (case l18 => k_is)
    (case c18 => k_is)
    (case k18 => k_is)
    (case a19 => k_is)
    (case l19 => k_is)
    (case c19 => k_is)
    (case k19 => k_is)
    (case a20 => k_is)
    (case l20 => k_is)
    (case c20 => k_is)
    (case k20 => k_is)
    (case a21 => k_is)
    (case l21 => k_is)
    (case c21 => k_is)
    (case k21 => k_is)
    (case a22 => k_is)
    (case i22 => k_is)
    (case l22 => k_is)
    (case c22 => k_is)
    (case k22 => k_is)
    (case a23 => k_is)
    (case i23 => k_is)
    (case l23 => k_is)
    (case c23 => k_is)
    (case k23 => k_is)
    (case a24 => k_is)
    (case i24 => k_is)
    (case l24 => k_is)
    (case c24 => k_is)
    (case k24 => k_is)
    (case a25 => k_is)
    (case i25 => k_is)
    (case l25 => k_is)
    (case c25 => k_is)
    (case k25 => k_is)
    (case a26 => k_is)
    (case i26 => k_is)
    (case l26 => k_is)
    (case c26 => k_is)
    (case k26 => k_is)
    (case a27 => k_is)
    (case l27 => k_is)
    (case c27 => k_is)
    (case k27 => k_is)
    (case a28 => k_is)
    (case l28 => k_is)
    (case c28 => k_is)
    (case k28 => k_is)
    (case a29 => k_is)
    (case l29 => k_is)
    (case c29 => k_is)
    (case k29 => k_is)
    (case a30 => k_is)
    (case l30 => k_is)
    (case c30 => k_is)
    (case k30 => k_is)
    (case a31 => k_is)
    (case l31 => k_is)
    (case c31 => k_is)
    (case k31 => k_is)
    (case a32 => k_is)
    (case l32 => k_is)
    (case c32 => k_is)
    (case k32 => k_is)
    (case a33 => k_is)
    (case l33 => k_is)
    (case c33 => k_is)
    (case k33 => k_is)
    (case a34 => k_is)
    (case l34 => k_is)
    (case c34 => k_is)
    (case k34 => k_is)
    (case a35 => k_is)
    (case l35 => k_is)
    (case c35 => k_is)
    (case k35 => k_is)
    (case a36 => k_is)
    (case l36 => k_is)
    (case c36 => k_is)
    (case k36 => k_is)
    (case a37 => k_is)
    (case l37 => k_is)
    (case c37 => k_is)
    (case k37 => k_is)
    (case a38 => k_is)
    (case l38 => k_is)
    (case c38 => k_is)
    (case k38 => k_is)
    (case a39 => k_is)
    (case l39 => k_is)
    (case c39 => k_is)
    (case k39 => k_is)
    (case a40 => k_is)
    (case l40 => k_is)
    (case c40 => k_is)
    (case k40 => k_is)
    (case a41 => k_is)
    (case l41 => k_is)
    (case c41 => k_is)
    (case k41 => k_is)
    (case a42 => k_is)
    (case l42 => k_is)
    (case c42 => k_is)
    (case k42 => k_is)
    (case a43 => k_is)
    (case l43 => k_is)
    (case c43 => k_is)
    (case k43 => k_is)
    (case a44 => k_is)
    (case l44 => k_is)
    (case c44 => k_is)
    (case k44 => k_is)
    (case z_f_Problem_count => k_is)
    (case z_f_Problem_hard => k_is)
    (case z_f_Problem_soft => k_is)
    (case z_f_Model_names => k_is)
    (case z_f_Model_rules => k_is)
    (case z_f_Model_costs => k_is)
    (case z_f_Program_count => k_is)
    (case z_f_Program_rows => k_is)
    (case z_f_Program_costs => k_is)
    (case z_n_sum => k_is)
    (case z_n_any => k_is)
    (case z_n_all => k_is)
    (case z_n_min => k_is)
    (case z_n_max => k_is)
    (case z_n_enumerate => k_is)
    (case z_n_list => k_is)
    (case z_n_tuple => k_is)
    (case z_n_sorted => k_is)
    (case z_n_len => k_is)
    (case z_n_range => k_is)
    (case z_n_dict => k_is)
    (case z_n_set => k_is)
    (case z_n_int => k_is)
    (case z_n_isinstance => k_is)
    (case z_n_str => k_is)
    (case z_n_bool => k_is)
    (case z_n_zip => k_is)
    (case z_n_abs => k_is)
    (case z_g_MOST_COUNT => k_is)
    (case z_g_MOST_HARD => k_is)
    (case z_g_MOST_SOFT => k_is)
    (case z_g_MOST_WEIGHT => k_is)
    (case z_g_MOST_NAMES => k_is)
    (case z_g_MOST_ITEMS => k_is)
    (case z_g_MOST_NUMBER => k_is)
    (case z_SIGNS => k_is)
    (case y_SIGNS => k_is)
