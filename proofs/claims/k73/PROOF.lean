import PyProof.Rows.All
import Wide.All
import OpenK.AllK
import Wide.FinOn
import HandS.Dict
import HandS.Iter
import HandS.Words
import HandS.Evl
import HandS.TupAny
import HandS.Conv
import HandS.IsInst
import HandS.Deep
import HandS.Style
import HandS.WordsList
import HandS.WordsDict
import HandS.SortInts
import HandS.SortRule
import HandS.SetFor
import HandS.Strs
import HandS.TupSets
import PySem.Challenge.RW_coresprice_k73_whole_things_that_are_hit
set_option Elab.async false
set_option autoImplicit false
set_option linter.all false
set_option maxRecDepth 100000
set_option maxHeartbeats 4000000
namespace Dl
/-! ### plain sorts -/
def isort (ns : List Int) : List Int := ns.mergeSort fun a b => decide (a ≤ b)
theorem isort_perm (ns : List Int) : List.Perm (isort ns) ns := List.mergeSort_perm _ _
theorem isort_srt (ns : List Int) : (isort ns).Pairwise (· ≤ ·) := by
  have h := List.pairwise_mergeSort (le := fun a b : Int => decide (a ≤ b)) (fun a b c h1 h2 => decide_eq_true (Int.le_trans (of_decide_eq_true h1) (of_decide_eq_true h2)))
    (fun a b => by rcases Int.le_total a b with h | h <;> simp [h]) ns
  exact h.imp fun h => of_decide_eq_true h
theorem isort_uniq {a b : List Int} (p : List.Perm a b) (h : a.Pairwise (· ≤ ·)) : a = isort b :=
  List.Perm.eq_of_pairwise (le := fun x y : Int => x ≤ y) (fun x y _ _ h1 h2 => Int.le_antisymm h1 h2) h (isort_srt b) (p.trans (isort_perm b).symm)
theorem isort_mem {ns : List Int} {t : Int} : t ∈ isort ns ↔ t ∈ ns := (isort_perm ns).mem_iff
theorem isort_eq {a b : List Int} (p : List.Perm a b) : isort a = isort b := isort_uniq ((isort_perm a).trans p) (isort_srt a)
def plt (p q : Int × Int) : Prop := p.1 < q.1 ∨ (p.1 = q.1 ∧ p.2 < q.2)
instance (p q : Int × Int) : Decidable (plt p q) := inferInstanceAs (Decidable (_ ∨ _))
def psort (ps : List (Int × Int)) : List (Int × Int) := ps.mergeSort fun a b => decide (¬ plt b a)
theorem psort_perm (ps : List (Int × Int)) : List.Perm (psort ps) ps := List.mergeSort_perm _ _
theorem psort_srt (ps : List (Int × Int)) : (psort ps).Pairwise fun a b => ¬ plt b a := by
  have h := List.pairwise_mergeSort (le := fun a b : Int × Int => decide (¬ plt b a)) (fun a b c h1 h2 => decide_eq_true (by
      have h1 := of_decide_eq_true h1
      have h2 := of_decide_eq_true h2
      unfold plt at *
      omega))
    (fun a b => by
      by_cases h : plt b a
      · have : ¬ plt a b := by unfold plt at *; omega
        simp [this]
      · simp [h]) ps
  exact h.imp fun h => of_decide_eq_true h
theorem psort_uniq {a b : List (Int × Int)} (p : List.Perm a b) (h : a.Pairwise fun x y => ¬ plt y x) : a = psort b :=
  List.Perm.eq_of_pairwise (le := fun x y : Int × Int => ¬ plt y x) (fun x y _ _ h1 h2 => by
    unfold plt at *
    exact Prod.ext (by omega) (by omega)) h (psort_srt b) (p.trans (psort_perm b).symm)
end Dl
/-! Data over the hand layer: D (what a value is worth), slots M, states Rs, judgements without a heap. -/
namespace Dl
open PySem L2 Evl

/-- what a value is worth -/
inductive D where
  | non | bl (b : Bool) | int (i : Int) | str (x : Str) | ty (n : String)
  | tup (xs : List D) | lst (xs : List D)
  | dk (ks : List Key) (xs : List D) | dt (ks : List (List Key)) (xs : List D)
  | ins (C : Addr) (ns : List Str) (xs : List D)

mutual
/-- the value v is worth d, as the heap H tells -/
def Rp (K : PySem.W.Frag) (H : Hp) : D → V → Prop
  | .non, v => v = .non
  | .bl b, v => v = .bl b
  | .int i, v => v = .int i
  | .str x, v => v = .str x
  | .ty n, v => v = .ty n
  | .tup ds, v => ∃ a vs, v = .ref a ∧ H a = some (.tup vs) ∧ Rps K H ds vs
  | .lst ds, v => ∃ a vs, v = .ref a ∧ H a = some (.lst vs) ∧ Rps K H ds vs
  | .dk ks ds, v => ∃ a vs, v = .ref a ∧ H a = some (.dK (ks.zip vs)) ∧ ks.length = vs.length ∧ Rps K H ds vs
  | .dt ks ds, v => ∃ a vs, v = .ref a ∧ H a = some (.dT (ks.zip vs)) ∧ ks.length = vs.length ∧ Rps K H ds vs
  | .ins C ns ds, v => ∃ a dx vs, v = .ref a ∧ H a = some (.ins C dx (ns.zip vs)) ∧ ns.length = vs.length ∧ Rps K H ds vs
def Rps (K : PySem.W.Frag) (H : Hp) : List D → List V → Prop
  | [], vs => vs = []
  | d :: ds, vs => ∃ v r, vs = v :: r ∧ Rp K H d v ∧ Rps K H ds r
end

section
variable {K : PySem.W.Frag} {H H' : Hp}
mutual
theorem Rp.mono (e : Ex H H') : ∀ (d : D) (v : V), Rp K H d v → Rp K H' d v
  | .non, v, h => by unfold Rp at *; exact h
  | .bl b, v, h => by unfold Rp at *; exact h
  | .int b, v, h => by unfold Rp at *; exact h
  | .str b, v, h => by unfold Rp at *; exact h
  | .ty b, v, h => by unfold Rp at *; exact h
  | .tup ds, v, h => by
    unfold Rp at *
    obtain ⟨a, vs, h1, h2, h3⟩ := h
    exact ⟨a, vs, h1, e _ _ h2, Rps.mono e ds vs h3⟩
  | .lst ds, v, h => by
    unfold Rp at *
    obtain ⟨a, vs, h1, h2, h3⟩ := h
    exact ⟨a, vs, h1, e _ _ h2, Rps.mono e ds vs h3⟩
  | .dk ks ds, v, h => by
    unfold Rp at *
    obtain ⟨a, vs, h1, h2, hl, h3⟩ := h
    exact ⟨a, vs, h1, e _ _ h2, hl, Rps.mono e ds vs h3⟩
  | .dt ks ds, v, h => by
    unfold Rp at *
    obtain ⟨a, vs, h1, h2, hl, h3⟩ := h
    exact ⟨a, vs, h1, e _ _ h2, hl, Rps.mono e ds vs h3⟩
  | .ins C ns ds, v, h => by
    unfold Rp at *
    obtain ⟨a, dx, vs, h1, h2, hl, h3⟩ := h
    exact ⟨a, dx, vs, h1, e _ _ h2, hl, Rps.mono e ds vs h3⟩
theorem Rps.mono (e : Ex H H') : ∀ (ds : List D) (vs : List V), Rps K H ds vs → Rps K H' ds vs
  | [], vs, h => by unfold Rps at *; exact h
  | d :: ds, vs, h => by
    unfold Rps at *
    obtain ⟨v, r, h1, h2, h3⟩ := h
    exact ⟨v, r, h1, Rp.mono e d v h2, Rps.mono e ds r h3⟩
end
end

/-! ### owned objects, slots, states -/
/-- the object at l, that may be changed, is worth d; its parts as H0 tells -/
def Ro (K : PySem.W.Frag) (H0 H : Hp) : D → Addr → Prop
  | .lst ds, l => ∃ vs, H l = some (.lst vs) ∧ Rps K H0 ds vs
  | .dk ks ds, l => ∃ vs, H l = some (.dK (ks.zip vs)) ∧ ks.length = vs.length ∧ Rps K H0 ds vs
  | .dt ks ds, l => ∃ vs, H l = some (.dT (ks.zip vs)) ∧ ks.length = vs.length ∧ Rps K H0 ds vs
  | .ins C ns ds, l => ∃ dx vs, H l = some (.ins C dx (ns.zip vs)) ∧ ns.length = vs.length ∧ Rps K H0 ds vs
  | _, _ => False
/-- what may be read as d: it is d for good, or an object that may change later -/
def Rb (K : PySem.W.Frag) (H0 H : Hp) (d : D) (v : V) : Prop := Rp K H0 d v ∨ ∃ l, v = .ref l ∧ Ro K H0 H d l

/-- what a slot holds: nothing known | data | a caller's object, read only | an own object | an own object of which only φ is known | the script -/
inductive M where
  | no | d (x : D) | b (x : D) | o (x : D) | e (φ : D → Prop) | q (ns : List Int)
def M.own : M → Bool
  | .o _ => true
  | .e _ => true
  | _ => false
def Rm (K : PySem.W.Frag) (G H0 H : Hp) : M → Option V → Prop
  | .no, _ => True
  | .d x, ov => ∃ v, ov = some v ∧ Rp K H0 x v
  | .b x, ov => ∃ l, ov = some (.ref l) ∧ Ro K H0 G x l
  | .q ns, ov => ∃ a, ov = some (.ref a) ∧ SqL K G a (ns.map V.int)
  | .o x, ov => ∃ l, ov = some (.ref l) ∧ H0 l = none ∧ G l = none ∧ Ro K H0 H x l
  | .e φ, ov => ∃ l x, φ x ∧ ov = some (.ref l) ∧ H0 l = none ∧ G l = none ∧ Ro K H0 H x l

structure Rs (K : PySem.W.Frag) (Pn : List Nat) (pl : Nat → V) (G H0 H : Hp) (σ : L2.St) (S : List M) : Prop where
  len : σ.length = S.length
  e0 : Ex H0 H
  eg : Ex G H
  sl : ∀ (i : Nat) (m : M), S[i]? = some m → ∃ ov, σ[i]? = some ov ∧ Rm K G H0 H m ov
  ap : ∀ (i j : Nat) (a b : M), S[i]? = some a → S[j]? = some b → a.own = true → b.own = true → σ[i]? = σ[j]? → i = j
  pin : ∀ i, i ∈ Pn → σ[i]? = some (some (pl i))
/-- H0 has grown by new things only -/
structure Gr (G H0 H1 : Hp) : Prop where
  ex : Ex H0 H1
  new : ∀ a, G a ≠ none → H1 a ≠ none → H0 a ≠ none
theorem Gr.refl (G H0 : Hp) : Gr G H0 H0 := ⟨Ex.refl _, fun _ _ h => h⟩
theorem Gr.trans {G A B C : Hp} (h : Gr G A B) (k : Gr G B C) : Gr G A C := ⟨h.ex.trans k.ex, fun a g c => h.new a g (k.new a g c)⟩
theorem Gr.upd {G H0 : Hp} {p : Addr} {o : HO} (g : G p = none) (h : H0 p = none) : Gr G H0 (upd H0 p o) := ⟨Ex.new h, fun a ga hu => by
  by_cases e : a = p
  · rw [e] at ga; exact absurd g ga
  · rwa [upd_ne e] at hu⟩

section
variable {K : PySem.W.Frag} {G H0 H H1 H2 : Hp} {σ : L2.St} {S : List M} {Pn : List Nat} {pl : Nat → V}
theorem Ro.mono0 (e : Ex H0 H1) {d : D} {l : Addr} (h : Ro K H0 H d l) : Ro K H1 H d l := by
  cases d <;> simp only [Ro] at * <;> first
    | exact h
    | (obtain ⟨vs, h1, h2⟩ := h; exact ⟨vs, h1, Rps.mono e _ _ h2⟩)
    | (obtain ⟨vs, h1, hl, h2⟩ := h; exact ⟨vs, h1, hl, Rps.mono e _ _ h2⟩)
    | (obtain ⟨dx, vs, h1, hl, h2⟩ := h; exact ⟨dx, vs, h1, hl, Rps.mono e _ _ h2⟩)
/-- the object is read alone -/
theorem Ro.at {d : D} {l : Addr} (h : Ro K H0 H d l) (e : H1 l = H l) : Ro K H0 H1 d l := by
  cases d <;> simp only [Ro] at * <;> first
    | exact h
    | (rw [e]; exact h)
theorem Ro.some {d : D} {l : Addr} (h : Ro K H0 H d l) : H l ≠ none := by
  cases d <;> simp only [Ro] at h <;> first
    | exact h.elim
    | (obtain ⟨vs, h1, _⟩ := h; rw [h1]; exact fun q => nomatch q)
    | (obtain ⟨dx, vs, h1, _⟩ := h; rw [h1]; exact fun q => nomatch q)
theorem Ro.mono {d : D} {l : Addr} (e : Ex H H1) (h : Ro K H0 H d l) : Ro K H0 H1 d l := by
  refine h.at ?_
  cases q : H l with
  | none => exact absurd q h.some
  | some o => exact e _ _ q
theorem Ro.rp {d : D} {l : Addr} (h : Ro K H0 H d l) (e : Ex H0 H) : Rp K H d (.ref l) := by
  cases d <;> simp only [Ro] at h <;> first
    | exact h.elim
    | (obtain ⟨vs, h1, h2⟩ := h; exact ⟨l, vs, rfl, h1, Rps.mono e _ _ h2⟩)
    | (obtain ⟨vs, h1, hl, h2⟩ := h; exact ⟨l, vs, rfl, h1, hl, Rps.mono e _ _ h2⟩)
    | (obtain ⟨dx, vs, h1, hl, h2⟩ := h; exact ⟨l, dx, vs, rfl, h1, hl, Rps.mono e _ _ h2⟩)
theorem Rb.rp {d : D} {v : V} (h : Rb K H0 H d v) (e : Ex H0 H) : Rp K H d v := by
  rcases h with h | ⟨l, rfl, h⟩
  · exact Rp.mono e _ _ h
  · exact h.rp e
theorem Rb.mono {d : D} {v : V} (h : Rb K H0 H d v) (e0 : Ex H0 H1) (e : Ex H H2) : Rb K H1 H2 d v := by
  rcases h with h | ⟨l, rfl, h⟩
  · exact .inl (Rp.mono e0 _ _ h)
  · exact .inr ⟨l, rfl, (h.mono0 e0).mono e⟩
theorem Rm.mono0 (g : Gr G H0 H1) {m : M} {ov : Option V} (hn : ∀ l, ov = Option.some (V.ref l) → m.own = true → H0 l = none → H1 l = none) (h : Rm K G H0 H m ov) : Rm K G H1 H m ov := by
  cases m with
  | no => trivial
  | d x => obtain ⟨v, h1, h2⟩ := h; exact ⟨v, h1, Rp.mono g.ex _ _ h2⟩
  | b x => obtain ⟨l, h1, h2⟩ := h; exact ⟨l, h1, h2.mono0 g.ex⟩
  | q ns => exact h
  | o x => obtain ⟨l, h1, h2, h3, h4⟩ := h; exact ⟨l, h1, hn l h1 rfl h2, h3, h4.mono0 g.ex⟩
  | e φ => obtain ⟨l, x, hx, h1, h2, h3, h4⟩ := h; exact ⟨l, x, hx, h1, hn l h1 rfl h2, h3, h4.mono0 g.ex⟩
theorem Rm.mono (e : Ex H H1) {m : M} {ov : Option V} (h : Rm K G H0 H m ov) : Rm K G H0 H1 m ov := by
  cases m with
  | no => trivial
  | d x => exact h
  | b x => exact h
  | q ns => exact h
  | o x => obtain ⟨l, h1, h2, h3, h4⟩ := h; exact ⟨l, h1, h2, h3, h4.mono e⟩
  | e φ => obtain ⟨l, x, hx, h1, h2, h3, h4⟩ := h; exact ⟨l, x, hx, h1, h2, h3, h4.mono e⟩
/-- the address of an own object -/
theorem Rm.addr {m : M} {ov : Option V} (h : Rm K G H0 H m ov) (ho : m.own = true) : ∃ l, ov = Option.some (V.ref l) ∧ H0 l = none ∧ G l = none ∧ H l ≠ none := by
  cases m with
  | no => cases ho
  | d x => cases ho
  | b x => cases ho
  | q ns => cases ho
  | o x => obtain ⟨l, h1, h2, h3, h4⟩ := h; exact ⟨l, h1, h2, h3, h4.some⟩
  | e φ => obtain ⟨l, x, hx, h1, h2, h3, h4⟩ := h; exact ⟨l, h1, h2, h3, h4.some⟩
/-- the heap has grown -/
theorem Rs.grow (R : Rs K Pn pl G H0 H σ S) (e : Ex H H1) : Rs K Pn pl G H0 H1 σ S where
  len := R.len
  e0 := R.e0.trans e
  eg := R.eg.trans e
  sl := fun i m h => by obtain ⟨ov, h1, h2⟩ := R.sl i m h; exact ⟨ov, h1, h2.mono e⟩
  ap := R.ap
  pin := R.pin
/-- a new thing for good -/
theorem Rs.frz (R : Rs K Pn pl G H0 H σ S) {p : Addr} {o : HO} (hp : H p = Option.some o) (hg : G p = none) (h0 : H0 p = none) (hs : ∀ (i : Nat) (m : M), S[i]? = Option.some m → m.own = true → σ[i]? ≠ Option.some (Option.some (V.ref p))) :
    Gr G H0 (upd H0 p o) ∧ Rs K Pn pl G (upd H0 p o) H σ S := by
  have g : Gr G H0 (upd H0 p o) := Gr.upd hg h0
  refine ⟨g, R.len, fun a u e => ?_, R.eg, fun i m h => ?_, R.ap, R.pin⟩
  · by_cases q : a = p
    · rw [q, upd_same] at e; cases e; rw [q]; exact hp
    · rw [upd_ne q] at e; exact R.e0 a u e
  · obtain ⟨ov, h1, h2⟩ := R.sl i m h
    refine ⟨ov, h1, h2.mono0 g fun l e ho hn => ?_⟩
    have q : l ≠ p := fun z => hs i m h ho (by rw [h1, e, z])
    rw [upd_ne q]; exact hn
theorem Rs.get (R : Rs K Pn pl G H0 H σ S) {i : Nat} {m : M} (h : S[i]? = Option.some m) : ∃ ov, σ[i]? = Option.some ov ∧ Rm K G H0 H m ov := R.sl i m h
/-- a new object is laid, for good -/
theorem Rs.lay (R : Rs K Pn pl G H0 H σ S) {p : Addr} {o : HO} (hp : H p = none) : Gr G H0 (upd H0 p o) ∧ Ex H (upd H p o) ∧ Rs K Pn pl G (upd H0 p o) (upd H p o) σ S := by
  have e : Ex H (L2.upd H p o) := Ex.new hp
  have h0 : H0 p = none := fresh_back R.e0 hp
  have hg : G p = none := fresh_back R.eg hp
  have R1 := R.grow e
  obtain ⟨g, R2⟩ := R1.frz (p := p) (o := o) upd_same hg h0 fun i m h ho z => by
    obtain ⟨ov, h1, h2⟩ := R.sl i m h
    obtain ⟨l, e1, _, _, e4⟩ := h2.addr ho
    rw [h1] at z
    have z2 := Option.some.inj z
    rw [e1] at z2
    have z3 := V.ref.inj (Option.some.inj z2)
    rw [z3] at e4
    exact e4 hp
  exact ⟨g, e, R2⟩
/-- a new object is laid, of one's own -/
theorem Rs.own_new (R : Rs K Pn pl G H0 H σ S) {p : Addr} (hp : H p = none) : H0 p = none ∧ G p = none ∧ ∀ (i : Nat) (m : M), S[i]? = Option.some m → m.own = true → σ[i]? ≠ Option.some (Option.some (V.ref p)) :=
  ⟨fresh_back R.e0 hp, fresh_back R.eg hp, fun i m h ho z => by
    obtain ⟨ov, h1, h2⟩ := R.sl i m h
    obtain ⟨l, e1, _, _, e4⟩ := h2.addr ho
    rw [h1] at z
    have z2 := Option.some.inj z
    rw [e1] at z2
    have z3 := V.ref.inj (Option.some.inj z2)
    rw [z3] at e4
    exact e4 hp⟩
/-- a slot is given data -/
theorem Rs.setd (R : Rs K Pn pl G H0 H σ S) {i : Nat} {x : D} {v : V} (hv : Rp K H0 x v) (hi : i ∉ Pn) : Rs K Pn pl G H0 H (σ.set i (Option.some v)) (S.set i (.d x)) where
  len := by rw [List.length_set, List.length_set]; exact R.len
  e0 := R.e0
  eg := R.eg
  sl := fun j m h => by
    by_cases e : i = j
    · subst e
      have hl : i < S.length := by
        have := (List.getElem?_eq_some_iff.mp h).1
        rwa [List.length_set] at this
      rw [List.getElem?_set_self hl] at h
      cases h
      exact ⟨_, List.getElem?_set_self (by rw [R.len]; exact hl), v, rfl, hv⟩
    · rw [List.getElem?_set_ne e] at h
      rw [List.getElem?_set_ne e]
      exact R.sl j m h
  ap := fun a b m n ha hb hm hn hs => by
    have ne : ∀ c q, (S.set i (.d x))[c]? = Option.some q → q.own = true → i ≠ c := fun c q hc hq z => by
      subst z
      have hl : i < S.length := by
        have := (List.getElem?_eq_some_iff.mp hc).1
        rwa [List.length_set] at this
      rw [List.getElem?_set_self hl] at hc
      cases hc
      cases hq
    have n1 := ne a m ha hm
    have n2 := ne b n hb hn
    rw [List.getElem?_set_ne n1] at ha
    rw [List.getElem?_set_ne n2] at hb
    rw [List.getElem?_set_ne n1, List.getElem?_set_ne n2] at hs
    exact R.ap a b m n ha hb hm hn hs
  pin := fun j hj => by
    have e : i ≠ j := fun z => hi (by rw [z]; exact hj)
    rw [List.getElem?_set_ne e]
    exact R.pin j hj
/-- a slot is forgotten -/
theorem Rs.setn (R : Rs K Pn pl G H0 H σ S) {i : Nat} {ov : Option V} (hi : i ∉ Pn) : Rs K Pn pl G H0 H (σ.set i ov) (S.set i .no) where
  len := by rw [List.length_set, List.length_set]; exact R.len
  e0 := R.e0
  eg := R.eg
  sl := fun j m h => by
    by_cases e : i = j
    · subst e
      have hl : i < S.length := by
        have := (List.getElem?_eq_some_iff.mp h).1
        rwa [List.length_set] at this
      rw [List.getElem?_set_self hl] at h
      cases h
      exact ⟨_, List.getElem?_set_self (by rw [R.len]; exact hl), trivial⟩
    · rw [List.getElem?_set_ne e] at h
      rw [List.getElem?_set_ne e]
      exact R.sl j m h
  ap := fun a b m n ha hb hm hn hs => by
    have ne : ∀ c q, (S.set i .no)[c]? = Option.some q → q.own = true → i ≠ c := fun c q hc hq z => by
      subst z
      have hl : i < S.length := by
        have := (List.getElem?_eq_some_iff.mp hc).1
        rwa [List.length_set] at this
      rw [List.getElem?_set_self hl] at hc
      cases hc
      cases hq
    have n1 := ne a m ha hm
    have n2 := ne b n hb hn
    rw [List.getElem?_set_ne n1] at ha
    rw [List.getElem?_set_ne n2] at hb
    rw [List.getElem?_set_ne n1, List.getElem?_set_ne n2] at hs
    exact R.ap a b m n ha hb hm hn hs
  pin := fun j hj => by
    have e : i ≠ j := fun z => hi (by rw [z]; exact hj)
    rw [List.getElem?_set_ne e]
    exact R.pin j hj
/-- a slot is given an own object -/
theorem Rs.seto (R : Rs K Pn pl G H0 H σ S) {i : Nat} {x : D} {p : Addr} (h0 : H0 p = none) (hg : G p = none) (ho : Ro K H0 H x p) (hf : ∀ (i : Nat) (m : M), S[i]? = Option.some m → m.own = true → σ[i]? ≠ Option.some (Option.some (V.ref p))) (hi : i ∉ Pn) :
    Rs K Pn pl G H0 H (σ.set i (Option.some (.ref p))) (S.set i (.o x)) where
  len := by rw [List.length_set, List.length_set]; exact R.len
  e0 := R.e0
  eg := R.eg
  sl := fun j m h => by
    by_cases e : i = j
    · subst e
      have hl : i < S.length := by
        have := (List.getElem?_eq_some_iff.mp h).1
        rwa [List.length_set] at this
      rw [List.getElem?_set_self hl] at h
      cases h
      exact ⟨_, List.getElem?_set_self (by rw [R.len]; exact hl), p, rfl, h0, hg, ho⟩
    · rw [List.getElem?_set_ne e] at h
      rw [List.getElem?_set_ne e]
      exact R.sl j m h
  ap := fun a b m n ha hb hm hn hs => by
    have hlen : ∀ c q, (S.set i (.o x))[c]? = Option.some q → c < S.length := fun c q hc => by
      have := (List.getElem?_eq_some_iff.mp hc).1
      rwa [List.length_set] at this
    by_cases n1 : i = a
    · by_cases n2 : i = b
      · rw [← n1, ← n2]
      · subst n1
        rw [List.getElem?_set_ne n2] at hb hs
        rw [List.getElem?_set_self (by rw [R.len]; exact hlen _ _ ha)] at hs
        exact absurd hs.symm (hf b n hb hn)
    · by_cases n2 : i = b
      · subst n2
        rw [List.getElem?_set_ne n1] at ha hs
        rw [List.getElem?_set_self (by rw [R.len]; exact hlen _ _ hb)] at hs
        exact absurd hs (hf a m ha hm)
      · rw [List.getElem?_set_ne n1] at ha
        rw [List.getElem?_set_ne n2] at hb
        rw [List.getElem?_set_ne n1, List.getElem?_set_ne n2] at hs
        exact R.ap a b m n ha hb hm hn hs
  pin := fun j hj => by
    have e : i ≠ j := fun z => hi (by rw [z]; exact hj)
    rw [List.getElem?_set_ne e]
    exact R.pin j hj
/-- an own object is changed -/
theorem Rs.write (R : Rs K Pn pl G H0 H σ S) {i : Nat} {m : M} {x : D} {l : Addr} {o : HO} (hi : S[i]? = Option.some m) (hm : m.own = true) (hl : σ[i]? = Option.some (Option.some (V.ref l))) (ho : Ro K H0 (upd H l o) x l) :
    Rs K Pn pl G H0 (upd H l o) σ (S.set i (.o x)) := by
  obtain ⟨ov, h1, h2⟩ := R.sl i m hi
  obtain ⟨l', e1, e2, e3, e4⟩ := h2.addr hm
  rw [hl] at h1
  have q : l' = l := by
    have z := Option.some.inj h1
    rw [e1] at z
    exact (V.ref.inj (Option.some.inj z)).symm
  subst q
  refine ⟨by rw [List.length_set]; exact R.len, fun a u ha => ?_, fun a u ha => ?_, fun j n h => ?_, fun a b m' n' ha hb hma hnb hs => ?_, R.pin⟩
  · rw [upd_ne (ne_of_none ha e2)]; exact R.e0 a u ha
  · rw [upd_ne (ne_of_none ha e3)]; exact R.eg a u ha
  · by_cases e : i = j
    · subst e
      have hlt : i < S.length := (List.getElem?_eq_some_iff.mp hi).1
      rw [List.getElem?_set_self hlt] at h
      cases h
      exact ⟨_, hl, l', rfl, e2, e3, ho⟩
    · rw [List.getElem?_set_ne e] at h
      obtain ⟨ov', h3, h4⟩ := R.sl j n h
      refine ⟨ov', h3, ?_⟩
      cases n with
      | no => trivial
      | d y => exact h4
      | b y => exact h4
      | q ns => exact h4
      | o y =>
        obtain ⟨k, k1, k2, k3, k4⟩ := h4
        have nk : k ≠ l' := fun z => e (R.ap i j m _ hi h hm rfl (by rw [hl, h3, k1, z]))
        exact ⟨k, k1, k2, k3, k4.at (upd_ne nk)⟩
      | e φ =>
        obtain ⟨k, y, ky, k1, k2, k3, k4⟩ := h4
        have nk : k ≠ l' := fun z => e (R.ap i j m _ hi h hm rfl (by rw [hl, h3, k1, z]))
        exact ⟨k, y, ky, k1, k2, k3, k4.at (upd_ne nk)⟩
  · have at_ : ∀ (c : Nat) (q : M), (S.set i (.o x))[c]? = Option.some q → q.own = true → ∃ q' : M, S[c]? = Option.some q' ∧ q'.own = true := fun c q hc hq => by
      by_cases z : i = c
      · subst z; exact ⟨m, hi, hm⟩
      · rw [List.getElem?_set_ne z] at hc; exact ⟨q, hc, hq⟩
    obtain ⟨a', x1, x2⟩ := at_ a m' ha hma
    obtain ⟨b', y1, y2⟩ := at_ b n' hb hnb
    exact R.ap a b a' b' x1 y1 x2 y2 hs
end
end Dl
/-! Judgements over slots: expressions, tests, arguments, values. -/
namespace Dl
open PySem L2 Evl

/-- own objects stand elsewhere than p -/
def Apart (σ : L2.St) (S : List M) (p : Addr) : Prop := ∀ (i : Nat) (m : M), S[i]? = some m → m.own = true → σ[i]? ≠ some (some (V.ref p))

section
variable (K : PySem.W.Frag)
/-- an expression gives data; R is wished of them and of the slots behind -/
def EvN (te : TE) (S : List M) (R : D → List M → Prop) : Prop := ∀ Pn pl G H0 H σ, Rs K Pn pl G H0 H σ S → ∀ Q : VK,
  (∀ d S' v H0' H', R d S' → Gr G H0 H0' → Rs K Pn pl G H0' H' σ S' → Rp K H0' d v → Q v H') → te σ H Q
/-- an expression gives a new object of one's own -/
def EvO (te : TE) (S : List M) (R : D → List M → Prop) : Prop := ∀ Pn pl G H0 H σ, Rs K Pn pl G H0 H σ S → ∀ Q : VK,
  (∀ d S' p H0' H', R d S' → Gr G H0 H0' → Rs K Pn pl G H0' H' σ S' → H0' p = none → G p = none → Apart σ S' p → Ro K H0' H' d p → Q (.ref p) H') → te σ H Q
/-- an expression that changes nothing: what it gives may be read as d; is d for good; is a new object d -/
def EvB (te : TE) (S : List M) (d : D) : Prop := ∀ Pn pl G H0 H σ, Rs K Pn pl G H0 H σ S → ∀ Q : VK,
  (∀ v H0' H', Gr G H0 H0' → Ex H H' → Rs K Pn pl G H0' H' σ S → Rb K H0' H' d v → Q v H') → te σ H Q
def EvP (te : TE) (S : List M) (d : D) : Prop := ∀ Pn pl G H0 H σ, Rs K Pn pl G H0 H σ S → ∀ Q : VK,
  (∀ v H0' H', Gr G H0 H0' → Ex H H' → Rs K Pn pl G H0' H' σ S → Rp K H0' d v → Q v H') → te σ H Q
def EvF (te : TE) (S : List M) (d : D) : Prop := ∀ Pn pl G H0 H σ, Rs K Pn pl G H0 H σ S → ∀ Q : VK,
  (∀ p H0' H', Gr G H0 H0' → Ex H H' → Rs K Pn pl G H0' H' σ S → H0' p = none → G p = none → Apart σ S p → Ro K H0' H' d p → Q (.ref p) H') → te σ H Q
/-- tests -/
def TpN (tt : TT) (S : List M) (R : Bool → List M → Prop) : Prop := ∀ Pn pl G H0 H σ, Rs K Pn pl G H0 H σ S → ∀ Q : Bool → Hp → Prop,
  (∀ b S' H0' H', R b S' → Gr G H0 H0' → Rs K Pn pl G H0' H' σ S' → Q b H') → tt σ H Q
def TpP (tt : TT) (S : List M) (b : Bool) : Prop := ∀ Pn pl G H0 H σ, Rs K Pn pl G H0 H σ S → ∀ Q : Bool → Hp → Prop,
  (∀ H0' H', Gr G H0 H0' → Ex H H' → Rs K Pn pl G H0' H' σ S → Q b H') → tt σ H Q
/-- rules by values -/
def V1P (r : V → Hp → VK → Prop) (x d : D) : Prop := ∀ Pn pl G H0 H σ S v, Rs K Pn pl G H0 H σ S → Rb K H0 H x v → ∀ Q : VK,
  (∀ w H0' H', Gr G H0 H0' → Ex H H' → Rs K Pn pl G H0' H' σ S → Rp K H0' d w → Q w H') → r v H Q
def V1F (r : V → Hp → VK → Prop) (x d : D) : Prop := ∀ Pn pl G H0 H σ S v, Rs K Pn pl G H0 H σ S → Rb K H0 H x v → ∀ Q : VK,
  (∀ p H0' H', Gr G H0 H0' → Ex H H' → Rs K Pn pl G H0' H' σ S → H0' p = none → G p = none → Apart σ S p → Ro K H0' H' d p → Q (.ref p) H') → r v H Q
def V2P (r : R2) (x y d : D) : Prop := ∀ Pn pl G H0 H σ S v w, Rs K Pn pl G H0 H σ S → Rb K H0 H x v → Rb K H0 H y w → ∀ Q : VK,
  (∀ z H0' H', Gr G H0 H0' → Ex H H' → Rs K Pn pl G H0' H' σ S → Rp K H0' d z → Q z H') → r v w H Q
def V2F (r : R2) (x y d : D) : Prop := ∀ Pn pl G H0 H σ S v w, Rs K Pn pl G H0 H σ S → Rb K H0 H x v → Rb K H0 H y w → ∀ Q : VK,
  (∀ p H0' H', Gr G H0 H0' → Ex H H' → Rs K Pn pl G H0' H' σ S → H0' p = none → G p = none → Apart σ S p → Ro K H0' H' d p → Q (.ref p) H') → r v w H Q
end

section
variable {K : PySem.W.Frag} {te ta tb tc : TE} {tt tu : TT} {S : List M} {d x y z : D} {R : D → List M → Prop} {i : Nat}
theorem EvP.n (h : EvP K te S d) (r : R d S) : EvN K te S R := fun Pn pl G H0 H σ Rr Q q => h Pn pl G H0 H σ Rr Q fun v H0' H' g e R' p => q d S v H0' H' r g R' p
theorem EvF.o (h : EvF K te S d) (r : R d S) : EvO K te S R := fun Pn pl G H0 H σ Rr Q q => h Pn pl G H0 H σ Rr Q fun p H0' H' g e R' n0 ng ap o => q d S p H0' H' r g R' n0 ng ap o
theorem EvP.b (h : EvP K te S d) : EvB K te S d := fun Pn pl G H0 H σ Rr Q q => h Pn pl G H0 H σ Rr Q fun v H0' H' g e R' p => q v H0' H' g e R' (.inl p)
theorem ro_frz {G H0 H : Hp} {σ : L2.St} {Pn : List Nat} {pl : Nat → V} {p : Addr} (Rr : Rs K Pn pl G H0 H σ S) (h0 : H0 p = none) (hg : G p = none) (ap : Apart σ S p) (o : Ro K H0 H d p) :
    ∃ H1, Gr G H0 H1 ∧ Rs K Pn pl G H1 H σ S ∧ Rp K H1 d (.ref p) := by
  have key : ∀ u, H p = some u → ∃ H1, Gr G H0 H1 ∧ Rs K Pn pl G H1 H σ S ∧ H1 p = some u := fun u hu => by
    obtain ⟨g, R'⟩ := Rr.frz hu hg h0 ap
    exact ⟨_, g, R', upd_same⟩
  cases d <;> simp only [Ro] at o <;> first
    | exact o.elim
    | (obtain ⟨vs, h1, h2⟩ := o; obtain ⟨H1, g, R', e⟩ := key _ h1; exact ⟨H1, g, R', p, vs, rfl, e, Rps.mono g.ex _ _ h2⟩)
    | (obtain ⟨vs, h1, hl, h2⟩ := o; obtain ⟨H1, g, R', e⟩ := key _ h1; exact ⟨H1, g, R', p, vs, rfl, e, hl, Rps.mono g.ex _ _ h2⟩)
    | (obtain ⟨dx, vs, h1, hl, h2⟩ := o; obtain ⟨H1, g, R', e⟩ := key _ h1; exact ⟨H1, g, R', p, dx, vs, rfl, e, hl, Rps.mono g.ex _ _ h2⟩)
theorem EvO.n (h : EvO K te S R) : EvN K te S R := fun Pn pl G H0 H σ Rr Q q => h Pn pl G H0 H σ Rr Q fun d S' p H0' H' r g R' n0 ng ap o => by
  obtain ⟨H1, g1, R1, rp⟩ := ro_frz R' n0 ng ap o
  exact q d S' _ H1 H' r (g.trans g1) R1 rp
theorem EvF.p (h : EvF K te S d) : EvP K te S d := fun Pn pl G H0 H σ Rr Q q => h Pn pl G H0 H σ Rr Q fun p H0' H' g e R' n0 ng ap o => by
  obtain ⟨H1, g1, R1, rp⟩ := ro_frz R' n0 ng ap o
  exact q _ H1 H' (g.trans g1) e R1 rp
theorem EvF.b (h : EvF K te S d) : EvB K te S d := h.p.b
theorem EvN.imp {R' : D → List M → Prop} (h : EvN K te S R) (k : ∀ d S', R d S' → R' d S') : EvN K te S R' := fun Pn pl G H0 H σ Rr Q q => h Pn pl G H0 H σ Rr Q fun d S' v H0' H' r g R' p => q d S' v H0' H' (k _ _ r) g R' p
theorem EvP.is (h : EvP K te S d) (e : d = x) : EvP K te S x := e ▸ h
theorem EvF.is (h : EvF K te S d) (e : d = x) : EvF K te S x := e ▸ h
theorem EvB.is (h : EvB K te S d) (e : d = x) : EvB K te S x := e ▸ h
theorem TpP.n {b : Bool} {R : Bool → List M → Prop} (h : TpP K tt S b) (r : R b S) : TpN K tt S R := fun Pn pl G H0 H σ Rr Q q => h Pn pl G H0 H σ Rr Q fun H0' H' g e R' => q b S H0' H' r g R'
theorem TpP.is {b c : Bool} (h : TpP K tt S b) (e : b = c) : TpP K tt S c := e ▸ h
/-! ### names and constants -/
theorem evp_var (h : S[i]? = some (.d x)) : EvP K (tVar i) S x := fun Pn pl G H0 H σ Rr Q q => by
  obtain ⟨ov, h1, v, rfl, h2⟩ := Rr.get h
  exact ⟨v, h1, q v H0 H (Gr.refl _ _) (Ex.refl _) Rr h2⟩
theorem evb_var (h : S[i]? = some (.d x)) : EvB K (tVar i) S x := (evp_var h).b
theorem evb_varo (h : S[i]? = some (.o x)) : EvB K (tVar i) S x := fun Pn pl G H0 H σ Rr Q q => by
  obtain ⟨ov, h1, l, rfl, _, _, h2⟩ := Rr.get h
  exact ⟨_, h1, q _ H0 H (Gr.refl _ _) (Ex.refl _) Rr (.inr ⟨l, rfl, h2⟩)⟩
theorem evb_varb (h : S[i]? = some (.b x)) : EvB K (tVar i) S x := fun Pn pl G H0 H σ Rr Q q => by
  obtain ⟨ov, h1, l, rfl, h2⟩ := Rr.get h
  exact ⟨_, h1, q _ H0 H (Gr.refl _ _) (Ex.refl _) Rr (.inr ⟨l, rfl, h2.mono Rr.eg⟩)⟩
theorem evp_c {v : V} (h : ∀ H, Rp K H d v) : EvP K (tC v) S d := fun Pn pl G H0 H σ Rr Q q => q v H0 H (Gr.refl _ _) (Ex.refl _) Rr (h _)
theorem evp_int {k : Int} : EvP K (tC (.int k)) S (.int k) := evp_c fun _ => rfl
theorem evp_bl {k : Bool} : EvP K (tC (.bl k)) S (.bl k) := evp_c fun _ => rfl
theorem evp_str {k : PySem.Str} : EvP K (tC (.str k)) S (.str k) := evp_c fun _ => rfl
theorem evp_non : EvP K (tC .non) S .non := evp_c fun _ => rfl
/-! ### operators by values -/
theorem evp_op {r : R2} (ha : EvB K ta S x) (hb : EvB K tb S y) (hr : V2P K r x y d) : EvP K (tOp r ta tb) S d := fun Pn pl G H0 H σ Rr Q q =>
  ha Pn pl G H0 H σ Rr _ fun v H01 H1 g1 e1 R1 p1 => hb Pn pl G H01 H1 σ R1 _ fun w H02 H2 g2 e2 R2 p2 =>
    hr Pn pl G H02 H2 σ S v w R2 (p1.mono g2.ex e2) p2 Q fun z H03 H3 g3 e3 R3 p3 => q z H03 H3 ((g1.trans g2).trans g3) ((e1.trans e2).trans e3) R3 p3
theorem evf_op {r : R2} (ha : EvB K ta S x) (hb : EvB K tb S y) (hr : V2F K r x y d) : EvF K (tOp r ta tb) S d := fun Pn pl G H0 H σ Rr Q q =>
  ha Pn pl G H0 H σ Rr _ fun v H01 H1 g1 e1 R1 p1 => hb Pn pl G H01 H1 σ R1 _ fun w H02 H2 g2 e2 R2 p2 =>
    hr Pn pl G H02 H2 σ S v w R2 (p1.mono g2.ex e2) p2 Q fun z H03 H3 g3 e3 R3 p3 => q z H03 H3 ((g1.trans g2).trans g3) ((e1.trans e2).trans e3) R3 p3
theorem evn_op {r : R2} (ha : EvN K ta S fun x S1 => EvN K tb S1 fun y S2 => ∃ d, V2P K r x y d ∧ R d S2) : EvN K (tOp r ta tb) S R := fun Pn pl G H0 H σ Rr Q q =>
  ha Pn pl G H0 H σ Rr _ fun x S1 v H01 H1 hb g1 R1 p1 => hb Pn pl G H01 H1 σ R1 _ fun y S2 w H02 H2 ⟨d, hr, r2⟩ g2 R2 p2 =>
    hr Pn pl G H02 H2 σ S2 v w R2 (.inl (Rp.mono g2.ex _ _ p1)) (.inl p2) Q fun z H03 H3 g3 e3 R3 p3 => q d S2 z H03 H3 r2 ((g1.trans g2).trans g3) R3 p3
/-- what a slot may be read as -/
def M.rd : M → D → Prop
  | .d x, y => x = y
  | .b x, y => x = y
  | .o x, y => x = y
  | _, _ => False
theorem Rs.read {G H0 H : Hp} {σ : L2.St} {Pn : List Nat} {pl : Nat → V} {m : M} (Rr : Rs K Pn pl G H0 H σ S) (h : S[i]? = some m) (hr : m.rd x) : ∃ v, σ[i]? = some (some v) ∧ Rb K H0 H x v := by
  obtain ⟨ov, h1, h2⟩ := Rr.get h
  cases m with
  | no => exact hr.elim
  | e φ => exact hr.elim
  | q ns => exact hr.elim
  | d y => cases (show y = x from hr); obtain ⟨v, rfl, h2⟩ := h2; exact ⟨v, h1, .inl h2⟩
  | b y => cases (show y = x from hr); obtain ⟨l, rfl, h2⟩ := h2; exact ⟨_, h1, .inr ⟨l, rfl, h2.mono Rr.eg⟩⟩
  | o y => cases (show y = x from hr); obtain ⟨l, rfl, _, _, h2⟩ := h2; exact ⟨_, h1, .inr ⟨l, rfl, h2⟩⟩
theorem evb_rd {m : M} (h : S[i]? = some m) (hr : m.rd x) : EvB K (tVar i) S x := fun Pn pl G H0 H σ Rr Q q => by
  obtain ⟨v, h1, h2⟩ := Rr.read h hr
  exact ⟨v, h1, q v H0 H (Gr.refl _ _) (Ex.refl _) Rr h2⟩
/-- the left one a name, the right one may change things -/
theorem evn_opv {r : R2} {m : M} (h0 : S[i]? = some m) (hr0 : m.rd z) (hb : EvN K tb S fun y S2 => ∃ x m2 d, S2[i]? = some m2 ∧ m2.rd x ∧ V2P K r x y d ∧ R d S2) : EvN K (tOp r (tVar i) tb) S R := fun Pn pl G H0 H σ Rr Q q => by
  obtain ⟨v, h1, _⟩ := Rr.read h0 hr0
  refine ⟨v, h1, hb Pn pl G H0 H σ Rr _ fun y S2 w H02 H2 ⟨x, m2, d, e1, e2, hr, r2⟩ g2 R2 p2 => ?_⟩
  obtain ⟨v', h1', p1⟩ := R2.read e1 e2
  rw [h1] at h1'
  cases h1'
  exact hr Pn pl G H02 H2 σ S2 v w R2 p1 (.inl p2) Q fun z H03 H3 g3 e3 R3 p3 => q d S2 z H03 H3 r2 (g2.trans g3) R3 p3
theorem evp_un {r : V → Hp → VK → Prop} (ha : EvB K ta S x) (hr : V1P K r x d) : EvP K (tUn r ta) S d := fun Pn pl G H0 H σ Rr Q q =>
  ha Pn pl G H0 H σ Rr _ fun v H01 H1 g1 e1 R1 p1 => hr Pn pl G H01 H1 σ S v R1 p1 Q fun z H03 H3 g3 e3 R3 p3 => q z H03 H3 (g1.trans g3) (e1.trans e3) R3 p3
theorem evp_then {r : V → Hp → VK → Prop} (ha : EvB K ta S x) (hr : V1P K r x d) : EvP K (tThen ta r) S d := evp_un ha hr
theorem evn_then {r : V → Hp → VK → Prop} (ha : EvN K ta S fun x S1 => ∃ d, V1P K r x d ∧ R d S1) : EvN K (tThen ta r) S R := fun Pn pl G H0 H σ Rr Q q =>
  ha Pn pl G H0 H σ Rr _ fun x S1 v H01 H1 ⟨d, hr, r2⟩ g1 R1 p1 => hr Pn pl G H01 H1 σ S1 v R1 (.inl p1) Q fun z H03 H3 g3 e3 R3 p3 => q d S1 z H03 H3 r2 (g1.trans g3) R3 p3
/-! ### calls of built-ins, of one and two arguments -/
def r1 (r : List V → Hp → VK → Prop) : V → Hp → VK → Prop := fun v => r [v]
def r2 (r : List V → Hp → VK → Prop) : R2 := fun v w => r [v, w]
theorem evp_cb {r : List V → Hp → VK → Prop} (ha : EvB K ta S x) (hr : V1P K (r1 r) x d) : EvP K (tCB r (tCons ta tNil)) S d := evp_un (r := r1 r) ha hr
theorem evf_cb {r : List V → Hp → VK → Prop} (ha : EvB K ta S x) (hr : V1F K (r1 r) x d) : EvF K (tCB r (tCons ta tNil)) S d := fun Pn pl G H0 H σ Rr Q q =>
  ha Pn pl G H0 H σ Rr _ fun v H01 H1 g1 e1 R1 p1 => hr Pn pl G H01 H1 σ S v R1 p1 Q fun z H03 H3 g3 e3 R3 p3 => q z H03 H3 (g1.trans g3) (e1.trans e3) R3 p3
theorem evn_cb {r : List V → Hp → VK → Prop} (ha : EvN K ta S fun x S1 => ∃ d, V1P K (r1 r) x d ∧ R d S1) : EvN K (tCB r (tCons ta tNil)) S R := evn_then (r := r1 r) ha
theorem evp_cb2 {r : List V → Hp → VK → Prop} (ha : EvB K ta S x) (hb : EvB K tb S y) (hr : V2P K (r2 r) x y d) : EvP K (tCB r (tCons ta (tCons tb tNil))) S d := evp_op (r := r2 r) ha hb hr
theorem evn_cb2 {r : List V → Hp → VK → Prop} (ha : EvN K ta S fun x S1 => EvN K tb S1 fun y S2 => ∃ d, V2P K (r2 r) x y d ∧ R d S2) : EvN K (tCB r (tCons ta (tCons tb tNil))) S R := evn_op (r := r2 r) ha
/-! ### displays -/
/-- argument lists of data -/
def ApN (K : PySem.W.Frag) (ta : TA) (S : List M) (R : List D → List M → Prop) : Prop := ∀ Pn pl G H0 H σ, Rs K Pn pl G H0 H σ S → ∀ Q : List V → Hp → Prop,
  (∀ ds S' vs H0' H', R ds S' → Gr G H0 H0' → Rs K Pn pl G H0' H' σ S' → Rps K H0' ds vs → Q vs H') → ta σ H Q
def ApP (K : PySem.W.Frag) (ta : TA) (S : List M) (ds : List D) : Prop := ∀ Pn pl G H0 H σ, Rs K Pn pl G H0 H σ S → ∀ Q : List V → Hp → Prop,
  (∀ vs H0' H', Gr G H0 H0' → Ex H H' → Rs K Pn pl G H0' H' σ S → Rps K H0' ds vs → Q vs H') → ta σ H Q
theorem app_nil : ApP K tNil S [] := fun Pn pl G H0 H σ Rr Q q => q [] H0 H (Gr.refl _ _) (Ex.refl _) Rr rfl
theorem app_cons {ta : TE} {tr : TA} {ds : List D} (h : EvP K ta S d) (hr : ApP K tr S ds) : ApP K (tCons ta tr) S (d :: ds) := fun Pn pl G H0 H σ Rr Q q =>
  h Pn pl G H0 H σ Rr _ fun v H01 H1 g1 e1 R1 p1 => hr Pn pl G H01 H1 σ R1 _ fun vs H02 H2 g2 e2 R2 p2 => q (v :: vs) H02 H2 (g1.trans g2) (e1.trans e2) R2 ⟨v, vs, rfl, Rp.mono g2.ex _ _ p1, p2⟩
theorem apn_nil {R : List D → List M → Prop} (r : R [] S) : ApN K tNil S R := fun Pn pl G H0 H σ Rr Q q => q [] S [] H0 H r (Gr.refl _ _) Rr rfl
theorem apn_cons {ta : TE} {tr : TA} {R : List D → List M → Prop} (h : EvN K ta S fun d S1 => ApN K tr S1 fun ds S2 => R (d :: ds) S2) : ApN K (tCons ta tr) S R := fun Pn pl G H0 H σ Rr Q q =>
  h Pn pl G H0 H σ Rr _ fun d S1 v H01 H1 hr g1 R1 p1 => hr Pn pl G H01 H1 σ R1 _ fun ds S2 vs H02 H2 r g2 R2 p2 => q (d :: ds) S2 (v :: vs) H02 H2 r (g1.trans g2) R2 ⟨v, vs, rfl, Rp.mono g2.ex _ _ p1, p2⟩
theorem Rps.length {H : Hp} : ∀ {ds : List D} {vs : List V}, Rps K H ds vs → ds.length = vs.length
  | [], vs, h => by unfold Rps at h; rw [h]; rfl
  | d :: ds, vs, h => by
    unfold Rps at h
    obtain ⟨v, r, rfl, _, h3⟩ := h
    rw [List.length_cons, List.length_cons, Rps.length h3]
theorem evp_tup {ta : TA} {ds : List D} (h : ApP K ta S ds) (hl : ds.length ≤ 100000) : EvP K (tTup ta) S (.tup ds) := fun Pn pl G H0 H σ Rr Q q =>
  h Pn pl G H0 H σ Rr _ fun vs H01 H1 g1 e1 R1 p1 => ⟨sz_of (by rw [← p1.length]; exact hl), fun p hp => by
    obtain ⟨g2, e2, R2⟩ := R1.lay (o := .tup vs) hp
    exact q _ _ _ (g1.trans g2) (e1.trans e2) R2 ⟨p, vs, rfl, upd_same, Rps.mono g2.ex _ _ p1⟩⟩
theorem evn_tup {ta : TA} (h : ApN K ta S fun ds S1 => ds.length ≤ 100000 ∧ R (.tup ds) S1) : EvN K (tTup ta) S R := fun Pn pl G H0 H σ Rr Q q =>
  h Pn pl G H0 H σ Rr _ fun ds S1 vs H01 H1 ⟨hl, r⟩ g1 R1 p1 => ⟨sz_of (by rw [← p1.length]; exact hl), fun p hp => by
    obtain ⟨g2, e2, R2⟩ := R1.lay (o := .tup vs) hp
    exact q _ _ _ _ _ r (g1.trans g2) R2 ⟨p, vs, rfl, upd_same, Rps.mono g2.ex _ _ p1⟩⟩
theorem Rs.new_own {G H0 H : Hp} {σ : L2.St} {Pn : List Nat} {pl : Nat → V} {p : Addr} {o : HO} (Rr : Rs K Pn pl G H0 H σ S) (hp : H p = none) : Rs K Pn pl G H0 (upd H p o) σ S ∧ H0 p = none ∧ G p = none ∧ Apart σ S p ∧ Ex H (upd H p o) := by
  obtain ⟨a, b, c⟩ := Rr.own_new hp
  exact ⟨Rr.grow (Ex.new hp), a, b, c, Ex.new hp⟩
theorem evf_lst {ta : TA} {ds : List D} (h : ApP K ta S ds) (hl : ds.length ≤ 100000) : EvF K (tLst ta) S (.lst ds) := fun Pn pl G H0 H σ Rr Q q =>
  h Pn pl G H0 H σ Rr _ fun vs H01 H1 g1 e1 R1 p1 => ⟨sz_of (by rw [← p1.length]; exact hl), fun p hp => by
    obtain ⟨R2, a, b, c, e2⟩ := R1.new_own (o := .lst vs) hp
    exact q p H01 _ g1 (e1.trans e2) R2 a b c ⟨vs, upd_same, p1⟩⟩
theorem evo_lst {ta : TA} (h : ApN K ta S fun ds S1 => ds.length ≤ 100000 ∧ R (.lst ds) S1) : EvO K (tLst ta) S R := fun Pn pl G H0 H σ Rr Q q =>
  h Pn pl G H0 H σ Rr _ fun ds S1 vs H01 H1 ⟨hl, r⟩ g1 R1 p1 => ⟨sz_of (by rw [← p1.length]; exact hl), fun p hp => by
    obtain ⟨R2, a, b, c, e2⟩ := R1.new_own (o := .lst vs) hp
    exact q _ S1 p H01 _ r g1 R2 a b c ⟨vs, upd_same, p1⟩⟩
theorem evf_dnewK : EvF K tDNewK S (.dk [] []) := fun Pn pl G H0 H σ Rr Q q p hp => by
  obtain ⟨R2, a, b, c, e2⟩ := Rr.new_own (o := .dK []) hp
  exact q p H0 _ (Gr.refl _ _) e2 R2 a b c ⟨[], upd_same, rfl, rfl⟩
theorem evf_dnewT : EvF K tDNewT S (.dt [] []) := fun Pn pl G H0 H σ Rr Q q p hp => by
  obtain ⟨R2, a, b, c, e2⟩ := Rr.new_own (o := .dT []) hp
  exact q p H0 _ (Gr.refl _ _) e2 R2 a b c ⟨[], upd_same, rfl, rfl⟩
/-! ### tests -/
theorem tpp_test {b : Bool} (h : EvP K te S (.bl b)) : TpP K (tTest te) S b := fun Pn pl G H0 H σ Rr Q q => h Pn pl G H0 H σ Rr _ fun v H0' H' g e R' p => ⟨b, p, q H0' H' g e R'⟩
theorem tpn_test {R : Bool → List M → Prop} (h : EvN K te S fun d S1 => ∃ b, d = .bl b ∧ R b S1) : TpN K (tTest te) S R := fun Pn pl G H0 H σ Rr Q q => h Pn pl G H0 H σ Rr _ fun d S' v H0' H' ⟨b, e, r⟩ g R' p => by
  subst e
  exact ⟨b, p, q b S' H0' H' r g R'⟩
theorem tpp_B {b : Bool} (h : EvP K te S (.bl b)) : TpP K (tB te) S b := tpp_test h
theorem tpn_B {R : Bool → List M → Prop} (h : EvN K te S fun d S1 => ∃ b, d = .bl b ∧ R b S1) : TpN K (tB te) S R := tpn_test h
theorem tpp_not {b : Bool} (h : TpP K tt S b) : TpP K (tNot tt) S (!b) := fun Pn pl G H0 H σ Rr Q q => h Pn pl G H0 H σ Rr _ fun H0' H' g e R' => q H0' H' g e R'
theorem tpn_not {R : Bool → List M → Prop} (h : TpN K tt S fun b S1 => R (!b) S1) : TpN K (tNot tt) S R := fun Pn pl G H0 H σ Rr Q q => h Pn pl G H0 H σ Rr _ fun b S' H0' H' r g R' => q (!b) S' H0' H' r g R'
theorem tpp_and {a b : Bool} (h1 : TpP K tt S a) (h2 : a = true → TpP K tu S b) : TpP K (tAnd tt tu) S (a && b) := fun Pn pl G H0 H σ Rr Q q => h1 Pn pl G H0 H σ Rr _ fun H01 H1 g1 e1 R1 => by
  cases a with
  | true => exact h2 rfl Pn pl G H01 H1 σ R1 Q fun H02 H2 g2 e2 R2 => q H02 H2 (g1.trans g2) (e1.trans e2) R2
  | false => exact q H01 H1 g1 e1 R1
theorem tpp_or {a b : Bool} (h1 : TpP K tt S a) (h2 : a = false → TpP K tu S b) : TpP K (tOr tt tu) S (a || b) := fun Pn pl G H0 H σ Rr Q q => h1 Pn pl G H0 H σ Rr _ fun H01 H1 g1 e1 R1 => by
  cases a with
  | true => exact q H01 H1 g1 e1 R1
  | false => exact h2 rfl Pn pl G H01 H1 σ R1 Q fun H02 H2 g2 e2 R2 => q H02 H2 (g1.trans g2) (e1.trans e2) R2
theorem tpn_and {R : Bool → List M → Prop} (h1 : TpN K tt S fun a S1 => (a = true → TpN K tu S1 R) ∧ (a = false → R false S1)) : TpN K (tAnd tt tu) S R := fun Pn pl G H0 H σ Rr Q q => h1 Pn pl G H0 H σ Rr _ fun a S1 H01 H1 ⟨k1, k2⟩ g1 R1 => by
  cases a with
  | true => exact k1 rfl Pn pl G H01 H1 σ R1 Q fun b S2 H02 H2 r g2 R2 => q b S2 H02 H2 r (g1.trans g2) R2
  | false => exact q false S1 H01 H1 (k2 rfl) g1 R1
theorem tpn_or {R : Bool → List M → Prop} (h1 : TpN K tt S fun a S1 => (a = false → TpN K tu S1 R) ∧ (a = true → R true S1)) : TpN K (tOr tt tu) S R := fun Pn pl G H0 H σ Rr Q q => h1 Pn pl G H0 H σ Rr _ fun a S1 H01 H1 ⟨k1, k2⟩ g1 R1 => by
  cases a with
  | true => exact q true S1 H01 H1 (k2 rfl) g1 R1
  | false => exact k1 rfl Pn pl G H01 H1 σ R1 Q fun b S2 H02 H2 r g2 R2 => q b S2 H02 H2 r (g1.trans g2) R2
theorem evp_andV {a b : Bool} (h1 : EvP K ta S (.bl a)) (h2 : a = true → EvP K tb S (.bl b)) : EvP K (tAndV ta tb) S (.bl (a && b)) := fun Pn pl G H0 H σ Rr Q q => h1 Pn pl G H0 H σ Rr _ fun v H01 H1 g1 e1 R1 p1 => ⟨a, p1, by
  cases a with
  | true => exact h2 rfl Pn pl G H01 H1 σ R1 Q fun v H02 H2 g2 e2 R2 p2 => q v H02 H2 (g1.trans g2) (e1.trans e2) R2 p2
  | false => exact q _ H01 H1 g1 e1 R1 rfl⟩
theorem evp_orV {a b : Bool} (h1 : EvP K ta S (.bl a)) (h2 : a = false → EvP K tb S (.bl b)) : EvP K (tOrV ta tb) S (.bl (a || b)) := fun Pn pl G H0 H σ Rr Q q => h1 Pn pl G H0 H σ Rr _ fun v H01 H1 g1 e1 R1 p1 => ⟨a, p1, by
  cases a with
  | true => exact q _ H01 H1 g1 e1 R1 rfl
  | false => exact h2 rfl Pn pl G H01 H1 σ R1 Q fun v H02 H2 g2 e2 R2 p2 => q v H02 H2 (g1.trans g2) (e1.trans e2) R2 p2⟩
theorem evn_andV {R : D → List M → Prop} (h1 : EvN K ta S fun d S1 => ∃ a, d = .bl a ∧ (a = true → EvN K tb S1 R) ∧ (a = false → R (.bl false) S1)) : EvN K (tAndV ta tb) S R := fun Pn pl G H0 H σ Rr Q q => h1 Pn pl G H0 H σ Rr _ fun d S1 v H01 H1 ⟨a, e, k1, k2⟩ g1 R1 p1 => by
  subst e
  refine ⟨a, p1, ?_⟩
  cases a with
  | true => exact k1 rfl Pn pl G H01 H1 σ R1 Q fun b S2 w H02 H2 r g2 R2 p2 => q b S2 w H02 H2 r (g1.trans g2) R2 p2
  | false => exact q _ S1 _ H01 H1 (k2 rfl) g1 R1 rfl
theorem evn_orV {R : D → List M → Prop} (h1 : EvN K ta S fun d S1 => ∃ a, d = .bl a ∧ (a = false → EvN K tb S1 R) ∧ (a = true → R (.bl true) S1)) : EvN K (tOrV ta tb) S R := fun Pn pl G H0 H σ Rr Q q => h1 Pn pl G H0 H σ Rr _ fun d S1 v H01 H1 ⟨a, e, k1, k2⟩ g1 R1 p1 => by
  subst e
  refine ⟨a, p1, ?_⟩
  cases a with
  | true => exact q _ S1 _ H01 H1 (k2 rfl) g1 R1 rfl
  | false => exact k1 rfl Pn pl G H01 H1 σ R1 Q fun b S2 w H02 H2 r g2 R2 p2 => q b S2 w H02 H2 r (g1.trans g2) R2 p2
theorem evp_notV {a : Bool} (h : EvP K ta S (.bl a)) : EvP K (tNotV ta) S (.bl (!a)) := fun Pn pl G H0 H σ Rr Q q => h Pn pl G H0 H σ Rr _ fun v H01 H1 g1 e1 R1 p1 => ⟨a, p1, q _ H01 H1 g1 e1 R1 rfl⟩
theorem evn_notV {R : D → List M → Prop} (h : EvN K ta S fun d S1 => ∃ a, d = .bl a ∧ R (.bl (!a)) S1) : EvN K (tNotV ta) S R := fun Pn pl G H0 H σ Rr Q q => h Pn pl G H0 H σ Rr _ fun d S1 v H01 H1 ⟨a, e, r⟩ g1 R1 p1 => by
  subst e
  exact ⟨a, p1, q _ S1 _ H01 H1 r g1 R1 rfl⟩
theorem evp_if {b : Bool} (h : TpP K tt S b) (h1 : b = true → EvP K ta S d) (h2 : b = false → EvP K tb S d) : EvP K (tIf tt ta tb) S d := fun Pn pl G H0 H σ Rr Q q => h Pn pl G H0 H σ Rr _ fun H01 H1 g1 e1 R1 => by
  cases b with
  | true => exact h1 rfl Pn pl G H01 H1 σ R1 Q fun v H02 H2 g2 e2 R2 p2 => q v H02 H2 (g1.trans g2) (e1.trans e2) R2 p2
  | false => exact h2 rfl Pn pl G H01 H1 σ R1 Q fun v H02 H2 g2 e2 R2 p2 => q v H02 H2 (g1.trans g2) (e1.trans e2) R2 p2
theorem evn_if (h : TpN K tt S fun b S1 => (b = true → EvN K ta S1 R) ∧ (b = false → EvN K tb S1 R)) : EvN K (tIf tt ta tb) S R := fun Pn pl G H0 H σ Rr Q q => h Pn pl G H0 H σ Rr _ fun b S1 H01 H1 ⟨k1, k2⟩ g1 R1 => by
  cases b with
  | true => exact k1 rfl Pn pl G H01 H1 σ R1 Q fun d S2 v H02 H2 r g2 R2 p2 => q d S2 v H02 H2 r (g1.trans g2) R2 p2
  | false => exact k2 rfl Pn pl G H01 H1 σ R1 Q fun d S2 v H02 H2 r g2 R2 p2 => q d S2 v H02 H2 r (g1.trans g2) R2 p2
/-- chains a < b < c -/
theorem evp_chain {r r' : R2} {p q : Bool} (ha : EvB K ta S x) (hb : EvB K tb S y) (h1 : V2P K r x y (.bl p)) (hc : p = true → EvB K tc S z) (h2 : p = true → V2P K r' y z (.bl q)) : EvP K (tChain r r' ta tb tc) S (.bl (p && q)) := fun Pn pl G H0 H σ Rr Q k =>
  ha Pn pl G H0 H σ Rr _ fun v H01 H1 g1 e1 R1 p1 => hb Pn pl G H01 H1 σ R1 _ fun w H02 H2 g2 e2 R2 p2 =>
    h1 Pn pl G H02 H2 σ S v w R2 (p1.mono g2.ex e2) p2 _ fun t H03 H3 g3 e3 R3 p3 => ⟨p, p3, by
      cases p with
      | true =>
        rw [if_pos rfl]
        exact hc rfl Pn pl G H03 H3 σ R3 _ fun u H04 H4 g4 e4 R4 p4 => h2 rfl Pn pl G H04 H4 σ S w u R4 (p2.mono (g3.trans g4).ex (e3.trans e4)) p4 Q fun s H05 H5 g5 e5 R5 p5 =>
          k s H05 H5 ((((g1.trans g2).trans g3).trans g4).trans g5) ((((e1.trans e2).trans e3).trans e4).trans e5) R5 p5
      | false =>
        rw [if_neg Bool.false_ne_true]
        exact k _ H03 H3 ((g1.trans g2).trans g3) ((e1.trans e2).trans e3) R3 rfl⟩
end
end Dl
/-! Rules that serve any kind of operand, and what they give by data. -/
namespace Dl
open PySem L2 Evl

/-! ### one term for all kinds -/
def orR (r r' : R2) : R2 := fun x y H Q => r x y H Q ∨ r' x y H Q
def orC (r r' : List V → Hp → VK → Prop) : List V → Hp → VK → Prop := fun xs H Q => r xs H Q ∨ r' xs H Q
def orE (t t' : TE) : TE := fun σ H Q => t σ H Q ∨ t' σ H Q
def addS : R2 := fun x y H Q => ∃ i j, x = .str i ∧ y = .str j ∧ i.length + j.length ≤ sizeLine ∧ Q (.str (i ++ j)) H
abbrev addI : R2 := rI0 fun i j => .int (i + j)
def addU (K : PySem.W.Frag) : R2 := orR addI (orR addS (orR rCat (rCatA K)))
abbrev subI : R2 := rI0 fun i j => .int (i - j)
abbrev mulI : R2 := rI CMul fun i j => .int (i * j)
abbrev modI : R2 := rI (fun _ j => j ≠ 0) fun i j => .int (i.fmod j)
abbrev fdvI : R2 := rI CDivN fun i j => .int (i.fdiv j)
abbrev powI : R2 := rI CPow fun i j => .int (i ^ j.toNat)
abbrev ltI : R2 := rI0 fun i j => .bl (decide (i < j))
abbrev leI : R2 := rI0 fun i j => .bl (decide (i ≤ j))
abbrev gtI : R2 := rI0 fun i j => .bl (decide (j < i))
abbrev geI : R2 := rI0 fun i j => .bl (decide (j ≤ i))
def isN : R2 := fun x y H Q => y = .non ∧ Q (.bl (decide (x = .non))) H
def notN : R2 := fun x y H Q => y = .non ∧ Q (.bl (!decide (x = .non))) H
def isU : R2 := orR isN rIsB
def notU : R2 := orR notN rNotB
def inU (K : PySem.W.Frag) : R2 := orR (rIn K false) (rInD K)
def ninU (K : PySem.W.Frag) : R2 := orR (rIn K true) (rNotInD K)
def lenSq (K : PySem.W.Frag) : List V → Hp → VK → Prop := fun xs H Q => ∃ p ys, xs = [.ref p] ∧ (SqL K H p ys ∨ SqT K H p ys) ∧ Q (.int ys.length) H
def lenSt : List V → Hp → VK → Prop := fun xs H Q => ∃ z, xs = [.str z] ∧ z.length ≤ sizeLine ∧ Q (.int z.length) H
def lenU (K : PySem.W.Frag) : List V → Hp → VK → Prop := orC (lenSq K) lenSt
def listSq (K : PySem.W.Frag) : List V → Hp → VK → Prop := fun xs H Q => ∃ p ys, xs = [.ref p] ∧ (SqL K H p ys ∨ SqT K H p ys) ∧ ∀ l, H l = none → Q (.ref l) (upd H l (.lst ys))
def absI : List V → Hp → VK → Prop := fun xs H Q => ∃ i, xs = [.int i] ∧ Q (.int (if i < 0 then -i else i)) H
def intU : List V → Hp → VK → Prop := fun xs H Q => (∃ i, xs = [.int i] ∧ Q (.int i) H) ∨ ∃ k, xs = [.bl k] ∧ Q (.int (if k then 1 else 0)) H
def strI : List V → Hp → VK → Prop := fun xs H Q => ∃ i, xs = [.int i] ∧ i.natAbs.log2 < 1920 ∧ Q (.str (toString i)) H
def max2 : List V → Hp → VK → Prop := fun xs H Q => ∃ i j, xs = [.int i, .int j] ∧ Q (.int (if j > i then j else i)) H
def min2 : List V → Hp → VK → Prop := fun xs H Q => ∃ i j, xs = [.int i, .int j] ∧ Q (.int (if j < i then j else i)) H
def slU (K : PySem.W.Frag) : V → Option Int → Option Int → Hp → VK → Prop := fun x lo hi H Q => rSlL K x lo hi H Q ∨ rSlA K x lo hi H Q
section
variable {X : Cx}
theorem pe_or {e : Expr} {t t' : TE} (h : PE X e t) (h' : PE X e t') : PE X e (orE t t') := ⟨fun pins s σ H Q I q => q.elim (fun q => h.run pins s σ H Q I q) fun q => h'.run pins s σ H Q I q⟩
theorem or_addU : OpR X (binaryOp .Add) (addU X.K) := OpR.or op_add (OpR.or op_add_str (OpR.or op_cat op_catA))
theorem or_isU : OpR X (compareOp .Is) isU := OpR.or op_isN op_isBl
theorem or_notU : OpR X (compareOp .IsNot) notU := OpR.or op_notN op_notBl
theorem or_inU (hu : X.A.units + 65 < cLine) : OpR X (compareOp .In) (inU X.K) := OpR.or op_in_seq (op_inD hu)
theorem or_ninU (hu : X.A.units + 65 < cLine) : OpR X (compareOp .NotIn) (ninU X.K) := OpR.or op_notIn_seq (op_notInD hu)
theorem cr_lenU : CallR X (.builtin "len") (lenU X.K) := CallR.or call_len_seq call_len_str
theorem cr_listSq : CallR X (.type "list") (listSq X.K) := call_list_of
theorem cr_absI : CallR X (.builtin "abs") absI := call_abs
theorem cr_intU : CallR X (.type "int") intU := call_int1
theorem cr_strI : CallR X (.type "str") strI := call_str_int
theorem cr_max2 (hc : X.calm = true) : CallR X (.builtin "max") max2 := call_max2 hc
theorem cr_min2 (hc : X.calm = true) : CallR X (.builtin "min") min2 := call_min2 hc
theorem sr_slU : SlR X (slU X.K) := SlR.or sl_list sl_tupA
/-- a[b]: a list, a tuple, a text, a dict -/
theorem pe_sub {a b : Expr} {ta tb : TE} {pos : Pos} (hu : X.A.units + 1 < cLine) (ha : PE X a ta) (hb : PE X b tb) (hs : PlainIx b) (hs2 : NoSl b) : PE X (.Subscript a b pos) (orE (tOp (rIx X.K) ta tb) (tDGet ta tb)) :=
  pe_or (pe_ix ix_seq ha hb hs) (pe_dget hu ha hb hs2)
/-- a in b: a list, a tuple, a dict -/
theorem pe_inU {a b : Expr} {ta tb : TE} {pos : Pos} (hu : X.A.units + 65 < cLine) (ha : PE X a ta) (hb : PE X b tb) (hm : behindInMarks .In b = false) (hf : behindInMarks .In b = false := by rfl) : PE X (.Compare a [.In] [b] pos) (orE (tOp (inU X.K) ta tb) (tDIn ta tb)) :=
  pe_or (pe_cmpR (or_inU hu) ha hb hm) (pe_cmp (pc_din (by omega) ha hb) hf)
theorem pe_ninU {a b : Expr} {ta tb : TE} {pos : Pos} (hu : X.A.units + 65 < cLine) (ha : PE X a ta) (hb : PE X b tb) (hm : behindInMarks .NotIn b = false) (hf : behindInMarks .NotIn b = false := by rfl) : PE X (.Compare a [.NotIn] [b] pos) (orE (tOp (ninU X.K) ta tb) (tDNotIn ta tb)) :=
  pe_or (pe_cmpR (or_ninU hu) ha hb hm) (pe_cmp (pc_dnotin (by omega) ha hb) hf)
/-- for over a list or a tuple -/
def iSq (K : PySem.W.Frag) (tl : TE) : TI := fun σ H R => iList K tl σ H R ∨ iTup K tl σ H R
theorem pi_sq {tg l : Expr} {tl : TE} (hl : PE X l tl) : PI X tg l (iSq X.K tl) := ⟨fun pins s σ H R I h => h.elim (fun h => (pi_list hl).run pins s σ H R I h) fun h => (pi_tup hl).run pins s σ H R I h⟩
end

/-! ### what they give -/
section
variable {K : PySem.W.Frag} {S : List M} {x y z d : D}
section
variable {H0 H : Hp} {v : V} {xs ds : List D}
theorem Rb.int {i : Int} (h : Rb K H0 H (.int i) v) : v = .int i := by
  rcases h with h | ⟨l, rfl, h⟩
  · exact h
  · exact h.elim
theorem Rb.bl {b : Bool} (h : Rb K H0 H (.bl b) v) : v = .bl b := by
  rcases h with h | ⟨l, rfl, h⟩
  · exact h
  · exact h.elim
theorem Rb.str {b : PySem.Str} (h : Rb K H0 H (.str b) v) : v = .str b := by
  rcases h with h | ⟨l, rfl, h⟩
  · exact h
  · exact h.elim
theorem Rb.non (h : Rb K H0 H .non v) : v = .non := by
  rcases h with h | ⟨l, rfl, h⟩
  · exact h
  · exact h.elim
theorem Rb.ty {n : String} (h : Rb K H0 H (.ty n) v) : v = .ty n := by
  rcases h with h | ⟨l, rfl, h⟩
  · exact h
  · exact h.elim
theorem Rb.lst (h : Rb K H0 H (.lst xs) v) (e : Ex H0 H) : ∃ a vs, v = .ref a ∧ H a = some (.lst vs) ∧ Rps K H0 xs vs := by
  rcases h with ⟨a, vs, rfl, h1, h2⟩ | ⟨l, rfl, vs, h1, h2⟩
  · exact ⟨a, vs, rfl, e _ _ h1, h2⟩
  · exact ⟨l, vs, rfl, h1, h2⟩
theorem Rb.tup (h : Rb K H0 H (.tup xs) v) (e : Ex H0 H) : ∃ a vs, v = .ref a ∧ H0 a = some (.tup vs) ∧ H a = some (.tup vs) ∧ Rps K H0 xs vs := by
  rcases h with ⟨a, vs, rfl, h1, h2⟩ | ⟨l, rfl, h⟩
  · exact ⟨a, vs, rfl, h1, e _ _ h1, h2⟩
  · exact h.elim
theorem Rb.dk {ks : List Key} (h : Rb K H0 H (.dk ks xs) v) (e : Ex H0 H) : ∃ a vs, v = .ref a ∧ H a = some (.dK (ks.zip vs)) ∧ ks.length = vs.length ∧ Rps K H0 xs vs := by
  rcases h with ⟨a, vs, rfl, h1, hl, h2⟩ | ⟨l, rfl, vs, h1, hl, h2⟩
  · exact ⟨a, vs, rfl, e _ _ h1, hl, h2⟩
  · exact ⟨l, vs, rfl, h1, hl, h2⟩
theorem Rb.ins {C : Addr} {ns : List PySem.Str} (h : Rb K H0 H (.ins C ns xs) v) (e : Ex H0 H) : ∃ a dx vs, v = .ref a ∧ H a = some (.ins C dx (ns.zip vs)) ∧ ns.length = vs.length ∧ Rps K H0 xs vs := by
  rcases h with ⟨a, dx, vs, rfl, h1, hl, h2⟩ | ⟨l, rfl, dx, vs, h1, hl, h2⟩
  · exact ⟨a, dx, vs, rfl, e _ _ h1, hl, h2⟩
  · exact ⟨l, dx, vs, rfl, h1, hl, h2⟩
theorem Rps.get : ∀ {ds : List D} {vs : List V} {i : Nat} {d : D}, Rps K H ds vs → ds[i]? = some d → ∃ v, vs[i]? = some v ∧ Rp K H d v
  | [], _, _, _, _, e => by cases e
  | x :: ds, vs, i, d, h, e => by
    unfold Rps at h
    obtain ⟨v, r, rfl, h2, h3⟩ := h
    cases i with
    | zero => cases e; exact ⟨v, rfl, h2⟩
    | succ i => exact Rps.get (i := i) h3 e
theorem Rps.append : ∀ {ds es : List D} {vs ws : List V}, Rps K H ds vs → Rps K H es ws → Rps K H (ds ++ es) (vs ++ ws)
  | [], es, vs, ws, h, k => by unfold Rps at h; subst h; exact k
  | x :: ds, es, vs, ws, h, k => by
    unfold Rps at h
    obtain ⟨v, r, rfl, h2, h3⟩ := h
    exact ⟨v, r ++ ws, rfl, h2, Rps.append h3 k⟩
theorem Rps.take : ∀ {ds : List D} {vs : List V} (n : Nat), Rps K H ds vs → Rps K H (ds.take n) (vs.take n)
  | [], vs, n, h => by unfold Rps at h; subst h; cases n <;> rfl
  | x :: ds, vs, n, h => by
    unfold Rps at h
    obtain ⟨v, r, rfl, h2, h3⟩ := h
    cases n with
    | zero => rfl
    | succ n => exact ⟨v, r.take n, rfl, h2, Rps.take n h3⟩
theorem Rps.drop : ∀ {ds : List D} {vs : List V} (n : Nat), Rps K H ds vs → Rps K H (ds.drop n) (vs.drop n)
  | [], vs, n, h => by unfold Rps at h; subst h; cases n <;> rfl
  | x :: ds, vs, n, h => by
    unfold Rps at h
    obtain ⟨v, r, rfl, h2, h3⟩ := h
    cases n with
    | zero => exact ⟨v, r, rfl, h2, h3⟩
    | succ n => exact Rps.drop n h3
theorem Rps.set : ∀ {ds : List D} {vs : List V} {d : D} {v : V} (n : Nat), Rps K H ds vs → Rp K H d v → Rps K H (ds.set n d) (vs.set n v)
  | [], vs, d, v, n, h, p => by unfold Rps at h; subst h; cases n <;> rfl
  | x :: ds, vs, d, v, n, h, p => by
    unfold Rps at h
    obtain ⟨w, r, rfl, h2, h3⟩ := h
    cases n with
    | zero => exact ⟨v, r, rfl, p, h3⟩
    | succ n => exact ⟨w, r.set n v, rfl, h2, Rps.set n h3 p⟩
theorem Rps.ints : ∀ {ns : List Int} {vs : List V}, Rps K H (ns.map D.int) vs → vs = ns.map V.int
  | [], vs, h => h
  | n :: ns, vs, h => by
    obtain ⟨v, r, rfl, h2, h3⟩ := h
    rw [Rps.ints h3, show v = .int n from h2]; rfl
theorem Rps.of_ints : ∀ (ns : List Int), Rps K H (ns.map D.int) (ns.map V.int)
  | [] => rfl
  | n :: ns => ⟨_, _, rfl, rfl, Rps.of_ints ns⟩
theorem Rps.bls : ∀ {bs : List Bool} {vs : List V}, Rps K H (bs.map D.bl) vs → vs = bs.map V.bl
  | [], vs, h => h
  | n :: ns, vs, h => by
    obtain ⟨v, r, rfl, h2, h3⟩ := h
    rw [Rps.bls h3, show v = .bl n from h2]; rfl
theorem Rps.strs : ∀ {bs : List PySem.Str} {vs : List V}, Rps K H (bs.map D.str) vs → vs = bs.map V.str
  | [], vs, h => h
  | n :: ns, vs, h => by
    obtain ⟨v, r, rfl, h2, h3⟩ := h
    rw [Rps.strs h3, show v = .str n from h2]; rfl
end
/-- the value at hand is the end -/
theorem v2_done {r : R2} (h : ∀ H0 H v w, Ex H0 H → Rb K H0 H x v → Rb K H0 H y w → ∃ z, Rp K H0 d z ∧ ∀ Q : VK, Q z H → r v w H Q) : V2P K r x y d := fun Pn pl G H0 H σ S v w Rr hv hw Q q => by
  obtain ⟨z, hz, k⟩ := h H0 H v w Rr.e0 hv hw
  exact k Q (q z H0 H (Gr.refl _ _) (Ex.refl _) Rr hz)
theorem v1_done {r : V → Hp → VK → Prop} (h : ∀ H0 H v, Ex H0 H → Rb K H0 H x v → ∃ z, Rp K H0 d z ∧ ∀ Q : VK, Q z H → r v H Q) : V1P K r x d := fun Pn pl G H0 H σ S v Rr hv Q q => by
  obtain ⟨z, hz, k⟩ := h H0 H v Rr.e0 hv
  exact k Q (q z H0 H (Gr.refl _ _) (Ex.refl _) Rr hz)
theorem V2P.l {r r' : R2} (h : V2P K r x y d) : V2P K (orR r r') x y d := fun Pn pl G H0 H σ S v w Rr hv hw Q q => .inl (h Pn pl G H0 H σ S v w Rr hv hw Q q)
theorem V2P.r {r r' : R2} (h : V2P K r' x y d) : V2P K (orR r r') x y d := fun Pn pl G H0 H σ S v w Rr hv hw Q q => .inr (h Pn pl G H0 H σ S v w Rr hv hw Q q)
theorem V2F.l {r r' : R2} (h : V2F K r x y d) : V2F K (orR r r') x y d := fun Pn pl G H0 H σ S v w Rr hv hw Q q => .inl (h Pn pl G H0 H σ S v w Rr hv hw Q q)
theorem V2F.r {r r' : R2} (h : V2F K r' x y d) : V2F K (orR r r') x y d := fun Pn pl G H0 H σ S v w Rr hv hw Q q => .inr (h Pn pl G H0 H σ S v w Rr hv hw Q q)
theorem V1P.l {r r' : List V → Hp → VK → Prop} (h : V1P K (r1 r) x d) : V1P K (r1 (orC r r')) x d := fun Pn pl G H0 H σ S v Rr hv Q q => .inl (h Pn pl G H0 H σ S v Rr hv Q q)
theorem V1P.r {r r' : List V → Hp → VK → Prop} (h : V1P K (r1 r') x d) : V1P K (r1 (orC r r')) x d := fun Pn pl G H0 H σ S v Rr hv Q q => .inr (h Pn pl G H0 H σ S v Rr hv Q q)
theorem V1F.p {r : V → Hp → VK → Prop} (h : V1F K r x d) : V1P K r x d := fun Pn pl G H0 H σ S v Rr hv Q q => h Pn pl G H0 H σ S v Rr hv Q fun p H0' H' g e R' n0 ng ap o => by
  obtain ⟨H1, g1, R1, rp⟩ := ro_frz R' n0 ng ap o
  exact q _ H1 H' (g.trans g1) e R1 rp
theorem V2F.p {r : R2} (h : V2F K r x y d) : V2P K r x y d := fun Pn pl G H0 H σ S v w Rr hv hw Q q => h Pn pl G H0 H σ S v w Rr hv hw Q fun p H0' H' g e R' n0 ng ap o => by
  obtain ⟨H1, g1, R1, rp⟩ := ro_frz R' n0 ng ap o
  exact q _ H1 H' (g.trans g1) e R1 rp
/-! ints -/
theorem v_I0 {g : Int → Int → V} {i j : Int} (h : ∀ H, Rp K H d (g i j)) : V2P K (rI0 g) (.int i) (.int j) d := v2_done fun H0 H v w _ hv hw => ⟨_, h H0, fun Q q => ⟨i, j, hv.int, hw.int, q⟩⟩
theorem v_I {C : Int → Int → Prop} {g : Int → Int → V} {i j : Int} (hc : C i j) (h : ∀ H, Rp K H d (g i j)) : V2P K (rI C g) (.int i) (.int j) d := v2_done fun H0 H v w _ hv hw => ⟨_, h H0, fun Q q => ⟨i, j, hv.int, hw.int, hc, q⟩⟩
theorem v_add {i j : Int} : V2P K (addU K) (.int i) (.int j) (.int (i + j)) := V2P.l (r := addI) (v_I0 fun _ => rfl)
theorem v_sub {i j : Int} : V2P K subI (.int i) (.int j) (.int (i - j)) := v_I0 fun _ => rfl
theorem v_mul {i j : Int} (h : CMul i j) : V2P K mulI (.int i) (.int j) (.int (i * j)) := v_I h fun _ => rfl
theorem v_mod {i j : Int} (h : j ≠ 0) : V2P K modI (.int i) (.int j) (.int (i.fmod j)) := v_I h fun _ => rfl
theorem v_fdv {i j : Int} (h : CDivN i j) : V2P K fdvI (.int i) (.int j) (.int (i.fdiv j)) := v_I h fun _ => rfl
theorem v_pow {i j : Int} (h : CPow i j) : V2P K powI (.int i) (.int j) (.int (i ^ j.toNat)) := v_I h fun _ => rfl
theorem v_lt {i j : Int} : V2P K ltI (.int i) (.int j) (.bl (decide (i < j))) := v_I0 fun _ => rfl
theorem v_le {i j : Int} : V2P K leI (.int i) (.int j) (.bl (decide (i ≤ j))) := v_I0 fun _ => rfl
theorem v_gt {i j : Int} : V2P K gtI (.int i) (.int j) (.bl (decide (j < i))) := v_I0 fun _ => rfl
theorem v_ge {i j : Int} : V2P K geI (.int i) (.int j) (.bl (decide (j ≤ i))) := v_I0 fun _ => rfl
theorem v_neg {i : Int} : V1P K (rU fun i => .int (-i)) (.int i) (.int (-i)) := v1_done fun H0 H v _ hv => ⟨_, rfl, fun Q q => ⟨i, hv.int, q⟩⟩
theorem v_abs {i : Int} : V1P K (r1 absI) (.int i) (.int (i.natAbs : Int)) := v1_done fun H0 H v _ hv => ⟨.int (if i < 0 then -i else i), by show _ = _; congr 1; omega, fun Q q => ⟨i, by rw [hv.int], q⟩⟩
theorem v_int {i : Int} : V1P K (r1 intU) (.int i) (.int i) := v1_done fun H0 H v _ hv => ⟨_, rfl, fun Q q => .inl ⟨i, by rw [hv.int], q⟩⟩
theorem v_intb {b : Bool} : V1P K (r1 intU) (.bl b) (.int (if b then 1 else 0)) := v1_done fun H0 H v _ hv => ⟨_, rfl, fun Q q => .inr ⟨b, by rw [hv.bl], q⟩⟩
theorem v_stri {i : Int} (h : i.natAbs.log2 < 1920) : V1P K (r1 strI) (.int i) (.str (toString i)) := v1_done fun H0 H v _ hv => ⟨_, rfl, fun Q q => ⟨i, by rw [hv.int], h, q⟩⟩
theorem v_max2 {i j : Int} : V2P K (r2 max2) (.int i) (.int j) (.int (if j > i then j else i)) := v2_done fun H0 H v w _ hv hw => ⟨_, rfl, fun Q q => ⟨i, j, by rw [hv.int, hw.int], q⟩⟩
theorem v_min2 {i j : Int} : V2P K (r2 min2) (.int i) (.int j) (.int (if j < i then j else i)) := v2_done fun H0 H v w _ hv hw => ⟨_, rfl, fun Q q => ⟨i, j, by rw [hv.int, hw.int], q⟩⟩
/-! texts -/
theorem v_adds {i j : PySem.Str} (h : i.length + j.length ≤ 100000) : V2P K (addU K) (.str i) (.str j) (.str (i ++ j)) := V2P.r (V2P.l (r := addS) (v2_done fun H0 H v w _ hv hw => ⟨.str (i ++ j), rfl, fun Q q => ⟨i, j, hv.str, hw.str, sz_of h, q⟩⟩))
/-! lists, tuples -/
theorem V2F_lay {r : R2} {ds : List D} (h : ∀ H0 H v w, Ex H0 H → Rb K H0 H x v → Rb K H0 H y w → ∃ vs, Rps K H0 ds vs ∧ ∀ Q : VK, (∀ p, H p = none → Q (.ref p) (upd H p (.lst vs))) → r v w H Q) : V2F K r x y (.lst ds) := fun Pn pl G H0 H σ S v w Rr hv hw Q q => by
  obtain ⟨vs, h1, k⟩ := h H0 H v w Rr.e0 hv hw
  refine k Q fun p hp => ?_
  obtain ⟨R2, a, b, c, e2⟩ := Rr.new_own (o := .lst vs) hp
  exact q p H0 _ (Gr.refl _ _) e2 R2 a b c ⟨vs, upd_same, h1⟩
theorem V1F_lay {r : V → Hp → VK → Prop} {ds : List D} (h : ∀ H0 H v, Ex H0 H → Rb K H0 H x v → ∃ vs, Rps K H0 ds vs ∧ ∀ Q : VK, (∀ p, H p = none → Q (.ref p) (upd H p (.lst vs))) → r v H Q) : V1F K r x (.lst ds) := fun Pn pl G H0 H σ S v Rr hv Q q => by
  obtain ⟨vs, h1, k⟩ := h H0 H v Rr.e0 hv
  refine k Q fun p hp => ?_
  obtain ⟨R2, a, b, c, e2⟩ := Rr.new_own (o := .lst vs) hp
  exact q p H0 _ (Gr.refl _ _) e2 R2 a b c ⟨vs, upd_same, h1⟩
theorem V1P_layT {r : V → Hp → VK → Prop} {ds : List D} (h : ∀ H0 H v, Ex H0 H → Rb K H0 H x v → ∃ vs, Rps K H0 ds vs ∧ ∀ Q : VK, (∀ p, H p = none → Q (.ref p) (upd H p (.tup vs))) → r v H Q) : V1P K r x (.tup ds) := fun Pn pl G H0 H σ S v Rr hv Q q => by
  obtain ⟨vs, h1, k⟩ := h H0 H v Rr.e0 hv
  refine k Q fun p hp => ?_
  obtain ⟨g2, e2, R2⟩ := Rr.lay (o := .tup vs) hp
  exact q _ _ _ g2 e2 R2 ⟨p, vs, rfl, upd_same, Rps.mono g2.ex _ _ h1⟩
theorem v_cat {xs ys : List D} (h : xs.length + ys.length ≤ 100000) : V2F K (addU K) (.lst xs) (.lst ys) (.lst (xs ++ ys)) := by
  refine V2F.r (V2F.r (V2F.l (V2F_lay fun H0 H v w e hv hw => ?_)))
  obtain ⟨a, vs, rfl, h1, h2⟩ := hv.lst e
  obtain ⟨b, ws, rfl, h3, h4⟩ := hw.lst e
  exact ⟨vs ++ ws, h2.append h4, fun Q q => ⟨a, b, vs, ws, rfl, rfl, h1, h3, sz_of (by rw [← h2.length, ← h4.length]; exact h), q⟩⟩
theorem v_catt {xs ys : List D} (h : xs.length + ys.length ≤ 100000) : V2P K (addU K) (.tup xs) (.tup ys) (.tup (xs ++ ys)) := by
  refine V2P.r (V2P.r (V2P.r fun Pn pl G H0 H σ S v w Rr hv hw Q q => ?_))
  obtain ⟨a, vs, rfl, h0, h1, h2⟩ := hv.tup Rr.e0
  obtain ⟨b, ws, rfl, k0, h3, h4⟩ := hw.tup Rr.e0
  refine ⟨a, b, vs, ws, rfl, rfl, st_of h1, st_of h3, sz_of (by rw [← h2.length, ← h4.length]; exact h), fun e => ?_, fun ne e => ?_, fun _ _ p hp => ?_⟩
  · subst e
    have e0 : xs = [] := by cases xs with
      | nil => rfl
      | cons x xs => obtain ⟨_, _, z, _⟩ := h2; cases z
    subst e0
    exact q _ H0 H (Gr.refl _ _) (Ex.refl _) Rr ⟨b, ws, rfl, k0, h4⟩
  · subst e
    have e0 : ys = [] := by cases ys with
      | nil => rfl
      | cons x xs => obtain ⟨_, _, z, _⟩ := h4; cases z
    subst e0
    rw [List.append_nil] at q
    exact q _ H0 H (Gr.refl _ _) (Ex.refl _) Rr ⟨a, vs, rfl, h0, h2⟩
  · obtain ⟨g2, e2, R2⟩ := Rr.lay (o := .tup (vs ++ ws)) hp
    exact q _ _ _ g2 e2 R2 ⟨p, _, rfl, upd_same, Rps.mono g2.ex _ _ (h2.append h4)⟩
theorem v_lenl {xs : List D} : V1P K (r1 (lenU K)) (.lst xs) (.int xs.length) := V1P.l (v1_done fun H0 H v e hv => by
  obtain ⟨a, vs, rfl, h1, h2⟩ := hv.lst e
  exact ⟨.int vs.length, by show V.int vs.length = V.int xs.length; rw [h2.length], fun Q q => ⟨a, vs, rfl, .inl (sq_of h1), q⟩⟩)
theorem v_lent {xs : List D} : V1P K (r1 (lenU K)) (.tup xs) (.int xs.length) := V1P.l (v1_done fun H0 H v e hv => by
  obtain ⟨a, vs, rfl, _, h1, h2⟩ := hv.tup e
  exact ⟨.int vs.length, by show V.int vs.length = V.int xs.length; rw [h2.length], fun Q q => ⟨a, vs, rfl, .inr (st_of h1), q⟩⟩)
theorem v_lens {z : PySem.Str} (h : z.length ≤ 100000) : V1P K (r1 (lenU K)) (.str z) (.int z.length) := V1P.r (v1_done fun H0 H v e hv => ⟨.int z.length, rfl, fun Q q => ⟨z, by rw [hv.str], sz_of h, q⟩⟩)
theorem v_listl {xs : List D} : V1F K (r1 (listSq K)) (.lst xs) (.lst xs) := V1F_lay fun H0 H v e hv => by
  obtain ⟨a, vs, rfl, h1, h2⟩ := hv.lst e
  exact ⟨vs, h2, fun Q q => ⟨a, vs, rfl, .inl (sq_of h1), q⟩⟩
theorem v_listt {xs : List D} : V1F K (r1 (listSq K)) (.tup xs) (.lst xs) := V1F_lay fun H0 H v e hv => by
  obtain ⟨a, vs, rfl, _, h1, h2⟩ := hv.tup e
  exact ⟨vs, h2, fun Q q => ⟨a, vs, rfl, .inr (st_of h1), q⟩⟩
theorem v_tupl {xs : List D} : V1P K (kTup K) (.lst xs) (.tup xs) := V1P_layT fun H0 H v e hv => by
  obtain ⟨a, vs, rfl, h1, h2⟩ := hv.lst e
  exact ⟨vs, h2, fun Q q => .inl ⟨a, vs, rfl, sq_of h1, q⟩⟩
theorem v_tupt {xs : List D} : V1P K (kTup K) (.tup xs) (.tup xs) := v1_done fun H0 H v e hv => by
  obtain ⟨a, vs, rfl, h0, h1, h2⟩ := hv.tup e
  exact ⟨_, ⟨a, vs, rfl, h0, h2⟩, fun Q q => .inr ⟨a, vs, rfl, st_of h1, q⟩⟩
theorem map_int {α : Type} (f : α → Int) (xs : List α) : xs.map (fun a => D.int (f a)) = (xs.map f).map D.int := by rw [List.map_map]; rfl
theorem map_bl {α : Type} (f : α → Bool) (xs : List α) : xs.map (fun a => D.bl (f a)) = (xs.map f).map D.bl := by rw [List.map_map]; rfl
theorem v_sum {α : Type} {xs : List α} {f : α → Int} : V1P K (r1 (rSum K)) (.lst (xs.map fun a => .int (f a))) (.int (xs.map f).sum) := v1_done fun H0 H v e hv => by
  rw [map_int] at hv
  obtain ⟨a, vs, rfl, h1, h2⟩ := hv.lst e
  have h3 := h2.ints
  subst h3
  exact ⟨_, rfl, fun Q q => ⟨a, _, rfl, sq_of h1, q⟩⟩
theorem v_any {α : Type} {xs : List α} {f : α → Bool} : V1P K (r1 (rAny K)) (.lst (xs.map fun a => .bl (f a))) (.bl (xs.any f)) := v1_done fun H0 H v e hv => by
  rw [map_bl] at hv
  obtain ⟨a, vs, rfl, h1, h2⟩ := hv.lst e
  have h3 := h2.bls
  subst h3
  exact ⟨.bl ((xs.map f).any id), by rw [List.any_map]; rfl, fun Q q => ⟨a, _, rfl, sq_of h1, q⟩⟩
theorem v_all {α : Type} {xs : List α} {f : α → Bool} : V1P K (r1 (rAll K)) (.lst (xs.map fun a => .bl (f a))) (.bl (xs.all f)) := v1_done fun H0 H v e hv => by
  rw [map_bl] at hv
  obtain ⟨a, vs, rfl, h1, h2⟩ := hv.lst e
  have h3 := h2.bls
  subst h3
  exact ⟨.bl ((xs.map f).all id), by rw [List.all_map]; rfl, fun Q q => ⟨a, _, rfl, sq_of h1, q⟩⟩
theorem v_min {α : Type} {xs : List α} {f : α → Int} {m : Int} (h1 : m ∈ xs.map f) (h2 : ∀ y, y ∈ xs.map f → m ≤ y) : V1P K (r1 (rMin K)) (.lst (xs.map fun a => .int (f a))) (.int m) := v1_done fun H0 H v e hv => by
  rw [map_int] at hv
  obtain ⟨a, vs, rfl, k1, k2⟩ := hv.lst e
  have h3 := k2.ints
  subst h3
  refine ⟨.int m, rfl, fun Q q => ⟨a, _, rfl, sq_of k1, List.length_pos_of_mem h1, fun m' hm hle => ?_⟩⟩
  have e1 := hle m h1
  have e2 := h2 m' hm
  have e3 : m' = m := by omega
  rw [e3]; exact q
theorem v_max {α : Type} {xs : List α} {f : α → Int} {m : Int} (h1 : m ∈ xs.map f) (h2 : ∀ y, y ∈ xs.map f → y ≤ m) : V1P K (r1 (rMax K)) (.lst (xs.map fun a => .int (f a))) (.int m) := v1_done fun H0 H v e hv => by
  rw [map_int] at hv
  obtain ⟨a, vs, rfl, k1, k2⟩ := hv.lst e
  have h3 := k2.ints
  subst h3
  refine ⟨.int m, rfl, fun Q q => ⟨a, _, rfl, sq_of k1, List.length_pos_of_mem h1, fun m' hm hle => ?_⟩⟩
  have e1 := hle m h1
  have e2 := h2 m' hm
  have e3 : m' = m := by omega
  rw [e3]; exact q
/-! is, is not -/
theorem v_isN (h : ∀ H0 H v, Rb K H0 H x v → (v = .non ↔ x = .non)) {b : Bool} (hb : b = true ↔ x = .non) : V2P K isU x .non (.bl b) := V2P.l (v2_done fun H0 H v w e hv hw => ⟨_, rfl, fun Q q => ⟨hw.non, by
  have e1 : decide (v = V.non) = b := by
    cases b with
    | true => exact decide_eq_true ((h H0 H v hv).mpr (hb.mp rfl))
    | false => exact decide_eq_false fun z => Bool.false_ne_true (hb.mpr ((h H0 H v hv).mp z))
  rw [e1]; exact q⟩⟩)
theorem v_notN (h : ∀ H0 H v, Rb K H0 H x v → (v = .non ↔ x = .non)) {b : Bool} (hb : b = true ↔ x = .non) : V2P K notU x .non (.bl (!b)) := V2P.l (v2_done fun H0 H v w e hv hw => ⟨_, rfl, fun Q q => ⟨hw.non, by
  have e1 : decide (v = V.non) = b := by
    cases b with
    | true => exact decide_eq_true ((h H0 H v hv).mpr (hb.mp rfl))
    | false => exact decide_eq_false fun z => Bool.false_ne_true (hb.mpr ((h H0 H v hv).mp z))
  rw [e1]; exact q⟩⟩)
theorem rb_non {H0 H : Hp} {v : V} : ∀ {x : D}, Rb K H0 H x v → (v = .non ↔ x = .non) := fun {x} h => by
  constructor
  · intro e
    subst e
    rcases h with h | ⟨l, e, h⟩
    · cases x <;> simp only [Rp] at h <;> first
        | rfl
        | (obtain ⟨a, dx, vs, e, _⟩ := h; cases e)
        | (obtain ⟨a, vs, e, _⟩ := h; cases e)
        | cases h
    · cases e
  · intro e
    subst e
    exact h.non
def D.isN : D → Bool
  | .non => true
  | _ => false
theorem isN_iff {x : D} : x.isN = true ↔ x = .non := by cases x <;> simp [D.isN]
theorem v_is : V2P K isU x .non (.bl x.isN) := v_isN (fun _ _ _ h => rb_non h) isN_iff
theorem v_isn : V2P K notU x .non (.bl (!x.isN)) := v_notN (fun _ _ _ h => rb_non h) isN_iff
theorem v_isB {a b : Bool} : V2P K isU (.bl a) (.bl b) (.bl (decide (a = b))) := V2P.r (v2_done fun H0 H v w e hv hw => ⟨_, rfl, fun Q q => ⟨a, b, hv.bl, hw.bl, q⟩⟩)
theorem v_isnB {a b : Bool} : V2P K notU (.bl a) (.bl b) (.bl (!decide (a = b))) := V2P.r (v2_done fun H0 H v w e hv hw => ⟨_, rfl, fun Q q => ⟨a, b, hv.bl, hw.bl, q⟩⟩)
end
end Dl
/-! ==, in, subscripts, slices, dicts, isinstance, fields: what they give by data. -/
namespace Dl
open PySem L2 Evl

mutual
def D.py : D → PyData
  | .non => .none
  | .bl b => .bool b
  | .int i => .int i
  | .str x => .str x
  | .tup xs => .tuple (D.pys xs)
  | .lst xs => .list (D.pys xs)
  | _ => .none
def D.pys : List D → List PyData
  | [] => []
  | x :: xs => D.py x :: D.pys xs
end
mutual
def D.isPy : D → Bool
  | .non => true
  | .bl _ => true
  | .int _ => true
  | .str _ => true
  | .tup xs => D.isPys xs
  | .lst xs => D.isPys xs
  | _ => false
def D.isPys : List D → Bool
  | [] => true
  | x :: xs => D.isPy x && D.isPys xs
end
section
variable {K : PySem.W.Frag} {H : Hp}
mutual
theorem rp_dp : ∀ (d : D) (v : V), d.isPy = true → Rp K H d v → Dp K H v d.py
  | .non, v, _, h => by cases (show v = .non from h); exact .non
  | .bl b, v, _, h => by cases (show v = .bl b from h); exact .bl b
  | .int b, v, _, h => by cases (show v = .int b from h); exact .int b
  | .str b, v, _, h => by cases (show v = .str b from h); exact .str b
  | .tup xs, v, p, h => by
    obtain ⟨a, vs, rfl, h1, h2⟩ := (show ∃ a vs, v = V.ref a ∧ H a = some (.tup vs) ∧ Rps K H xs vs by unfold Rp at h; exact h)
    have p' : D.isPys xs = true := by unfold D.isPy at p; exact p
    have q := rps_dp xs vs p' h2
    unfold D.py
    exact .tup (st_of h1) q
  | .lst xs, v, p, h => by
    obtain ⟨a, vs, rfl, h1, h2⟩ := (show ∃ a vs, v = V.ref a ∧ H a = some (.lst vs) ∧ Rps K H xs vs by unfold Rp at h; exact h)
    have p' : D.isPys xs = true := by unfold D.isPy at p; exact p
    have q := rps_dp xs vs p' h2
    unfold D.py
    exact .lst (sq_of h1) q
  | .dk _ _, _, p, _ => by unfold D.isPy at p; cases p
  | .dt _ _, _, p, _ => by unfold D.isPy at p; cases p
  | .ins _ _ _, _, p, _ => by unfold D.isPy at p; cases p
  | .ty _, _, p, _ => by unfold D.isPy at p; cases p
theorem rps_dp : ∀ (ds : List D) (vs : List V), D.isPys ds = true → Rps K H ds vs → DpAll K H vs (D.pys ds)
  | [], vs, _, h => by
    have e : vs = [] := by unfold Rps at h; exact h
    subst e; unfold D.pys; exact .nil
  | d :: ds, vs, p, h => by
    obtain ⟨v, r, rfl, h1, h2⟩ := (show ∃ v r, vs = v :: r ∧ Rp K H d v ∧ Rps K H ds r by unfold Rps at h; exact h)
    unfold D.isPys at p
    rw [Bool.and_eq_true] at p
    have a := rp_dp d v p.1 h1
    have b := rps_dp ds r p.2 h2
    unfold D.pys
    exact .cons a b
end
end
/-- data of a type: which are equal just when the things are, of a depth -/
structure Emb {α : Type} (g : α → D) (n : Nat) : Prop where
  py : ∀ a, (g a).isPy = true
  lay : ∀ a, (g a).py.canLay0 = true
  dep : ∀ a, (g a).py.depth ≤ n
  eqv : ∀ a b, (PyData.eqv (g a).py (g b).py = true) ↔ a = b
theorem Emb.shaped {α : Type} {g : α → D} {n : Nat} (E : Emb g n) (h : n ≤ 64) (a : α) : SeqAt.shaped (g a).py = true := by
  show ((g a).py.canLay0 && decide ((g a).py.depth ≤ 64)) = true
  rw [E.lay a, decide_eq_true (Nat.le_trans (E.dep a) h)]; rfl
theorem Emb.mono {α : Type} {g : α → D} {n m : Nat} (E : Emb g n) (h : n ≤ m) : Emb g m := ⟨E.py, E.lay, fun a => Nat.le_trans (E.dep a) h, E.eqv⟩
theorem emb_int : Emb D.int 0 := ⟨fun _ => rfl, fun _ => rfl, fun _ => Nat.le_refl _, fun a b => by simp [D.py, PyData.eqv]⟩
section
variable {α β : Type} {g : α → D} {n : Nat}
theorem emb_pys (E : Emb g n) : ∀ xs : List α, D.isPys (xs.map g) = true ∧ PyData.canLayAll0 (D.pys (xs.map g)) = true ∧ PyData.depthAll (D.pys (xs.map g)) ≤ n
  | [] => ⟨rfl, rfl, Nat.zero_le _⟩
  | x :: xs => by
    obtain ⟨a, b, c⟩ := emb_pys E xs
    simp only [List.map_cons, D.isPys, D.pys, PyData.canLayAll0, PyData.depthAll, E.py x, E.lay x, a, b, Bool.and_self, true_and]
    exact Nat.max_le.mpr ⟨E.dep x, c⟩
theorem emb_eqs (E : Emb g n) : ∀ xs ys : List α, PyData.eqvAll (D.pys (xs.map g)) (D.pys (ys.map g)) = true ↔ xs = ys
  | [], [] => by simp [D.pys, PyData.eqvAll]
  | [], y :: ys => by simp [D.pys, PyData.eqvAll]
  | x :: xs, [] => by simp [D.pys, PyData.eqvAll]
  | x :: xs, y :: ys => by
    simp only [List.map_cons, D.pys, PyData.eqvAll, Bool.and_eq_true, E.eqv x y, emb_eqs E xs ys, List.cons.injEq]
theorem emb_lst (E : Emb g n) : Emb (fun xs : List α => D.lst (xs.map g)) (n + 1) := by
  refine ⟨fun xs => ?_, fun xs => ?_, fun xs => ?_, fun xs ys => ?_⟩
  · simp only [D.isPy]; exact (emb_pys E xs).1
  · simp only [D.py, PyData.canLay0]; exact (emb_pys E xs).2.1
  · simp only [D.py, PyData.depth]; have := (emb_pys E xs).2.2; omega
  · simp only [D.py, PyData.eqv]; exact emb_eqs E xs ys
theorem emb_tup (E : Emb g n) : Emb (fun xs : List α => D.tup (xs.map g)) (n + 1) := by
  refine ⟨fun xs => ?_, fun xs => ?_, fun xs => ?_, fun xs ys => ?_⟩
  · simp only [D.isPy]; exact (emb_pys E xs).1
  · simp only [D.py, PyData.canLay0]; exact (emb_pys E xs).2.1
  · simp only [D.py, PyData.depth]; have := (emb_pys E xs).2.2; omega
  · simp only [D.py, PyData.eqv]; exact emb_eqs E xs ys
theorem emb_pair {h : β → D} {m : Nat} (E : Emb g n) (F : Emb h m) : Emb (fun p : α × β => D.tup [g p.1, h p.2]) (max n m + 1) := by
  refine ⟨fun p => ?_, fun p => ?_, fun p => ?_, fun p q => ?_⟩
  · simp only [D.isPy, D.isPys, E.py, F.py, Bool.and_self]
  · simp only [D.py, D.pys, PyData.canLay0, PyData.canLayAll0, E.lay, F.lay, Bool.and_self]
  · simp only [D.py, D.pys, PyData.depth, PyData.depthAll]
    have h1 := E.dep p.1
    have h2 := F.dep p.2
    omega
  · obtain ⟨a, b⟩ := p
    obtain ⟨c, d⟩ := q
    simp only [D.py, D.pys, PyData.eqv, PyData.eqvAll, Bool.and_eq_true, E.eqv, F.eqv, and_true, Prod.mk.injEq]
end

section
variable {K : PySem.W.Frag} {S : List M} {x y z d : D} {ta tb te : TE}
theorem Rb.dp {H0 H : Hp} {v : V} (h : Rb K H0 H d v) (e : Ex H0 H) (p : d.isPy = true) : Dp K H v d.py := rp_dp d v p (h.rp e)
theorem v_eq (px : x.isPy = true) (py : y.isPy = true) (sx : SeqAt.shaped x.py = true) (sy : SeqAt.shaped y.py = true) : V2P K (rEqD K) x y (.bl (PyData.eqv x.py y.py)) := v2_done fun H0 H v w e hv hw =>
  ⟨_, rfl, fun Q q => ⟨_, _, hv.dp e px, hw.dp e py, sx, sy, q⟩⟩
theorem v_ne (px : x.isPy = true) (py : y.isPy = true) (sx : SeqAt.shaped x.py = true) (sy : SeqAt.shaped y.py = true) : V2P K (rNeD K) x y (.bl (!PyData.eqv x.py y.py)) := v2_done fun H0 H v w e hv hw =>
  ⟨_, rfl, fun Q q => ⟨_, _, hv.dp e px, hw.dp e py, sx, sy, q⟩⟩
theorem v_eqT {α : Type} [DecidableEq α] {g : α → D} {n : Nat} (E : Emb g n) (h : n ≤ 64) {a b : α} : V2P K (rEqD K) (g a) (g b) (.bl (decide (a = b))) := by
  have e : decide (a = b) = PyData.eqv (g a).py (g b).py := by
    cases q : PyData.eqv (g a).py (g b).py with
    | true => exact decide_eq_true ((E.eqv a b).mp q)
    | false => exact decide_eq_false fun z => by rw [(E.eqv a b).mpr z] at q; cases q
  rw [e]
  exact v_eq (E.py a) (E.py b) (E.shaped h a) (E.shaped h b)
theorem v_neT {α : Type} [DecidableEq α] {g : α → D} {n : Nat} (E : Emb g n) (h : n ≤ 64) {a b : α} : V2P K (rNeD K) (g a) (g b) (.bl (!decide (a = b))) := by
  have e : decide (a = b) = PyData.eqv (g a).py (g b).py := by
    cases q : PyData.eqv (g a).py (g b).py with
    | true => exact decide_eq_true ((E.eqv a b).mp q)
    | false => exact decide_eq_false fun z => by rw [(E.eqv a b).mpr z] at q; cases q
  rw [e]
  exact v_ne (E.py a) (E.py b) (E.shaped h a) (E.shaped h b)
theorem v_eqi {a b : Int} : V2P K (rEqD K) (.int a) (.int b) (.bl (decide (a = b))) := v_eqT emb_int (by decide)
theorem v_nei {a b : Int} : V2P K (rNeD K) (.int a) (.int b) (.bl (!decide (a = b))) := v_neT emb_int (by decide)
/-! in -/
theorem v_inT {α : Type} [DecidableEq α] {g : α → D} {n : Nat} (E : Emb g n) (h : n ≤ 63) {a : α} {xs : List α} : V2P K (inU K) (g a) (.lst (xs.map g)) (.bl (decide (a ∈ xs))) := by
  have F := emb_lst E
  refine V2P.r (v2_done fun H0 H v w e hv hw => ⟨_, rfl, fun Q q => ⟨_, D.pys (xs.map g), hv.dp e (E.py a), ?_, E.shaped (by omega) a, ?_, ?_⟩⟩)
  · have := hw.dp e (F.py xs)
    unfold D.py at this
    exact this
  · have := F.shaped (by omega) xs
    unfold D.py at this
    exact this
  · have key : ∀ ys : List α, ((D.pys (ys.map g)).any fun z => PyData.eqv z (g a).py) = decide (a ∈ ys) := fun ys => by
      induction ys with
      | nil => rfl
      | cons y ys ih =>
        rw [List.map_cons, D.pys, List.any_cons, ih]
        by_cases q : y = a
        · rw [(E.eqv y a).mpr q, q]; simp
        · have : PyData.eqv (g y).py (g a).py = false := by
            cases z : PyData.eqv (g y).py (g a).py with
            | true => exact absurd ((E.eqv y a).mp z) q
            | false => rfl
          rw [this, Bool.false_or]
          exact decide_eq_decide.mpr ⟨fun h => List.mem_cons_of_mem _ h, fun h => (List.mem_cons.mp h).elim (fun z => absurd z.symm q) fun z => z⟩
    rw [key]
    exact q
theorem v_ninT {α : Type} [DecidableEq α] {g : α → D} {n : Nat} (E : Emb g n) (h : n ≤ 63) {a : α} {xs : List α} : V2P K (ninU K) (g a) (.lst (xs.map g)) (.bl (!decide (a ∈ xs))) := by
  have F := emb_lst E
  refine V2P.r (v2_done fun H0 H v w e hv hw => ⟨_, rfl, fun Q q => ⟨_, D.pys (xs.map g), hv.dp e (E.py a), ?_, E.shaped (by omega) a, ?_, ?_⟩⟩)
  · have := hw.dp e (F.py xs)
    unfold D.py at this
    exact this
  · have := F.shaped (by omega) xs
    unfold D.py at this
    exact this
  · have key : ∀ ys : List α, ((D.pys (ys.map g)).any fun z => PyData.eqv z (g a).py) = decide (a ∈ ys) := fun ys => by
      induction ys with
      | nil => rfl
      | cons y ys ih =>
        rw [List.map_cons, D.pys, List.any_cons, ih]
        by_cases q : y = a
        · rw [(E.eqv y a).mpr q, q]; simp
        · have : PyData.eqv (g y).py (g a).py = false := by
            cases z : PyData.eqv (g y).py (g a).py with
            | true => exact absurd ((E.eqv y a).mp z) q
            | false => rfl
          rw [this, Bool.false_or]
          exact decide_eq_decide.mpr ⟨fun h => List.mem_cons_of_mem _ h, fun h => (List.mem_cons.mp h).elim (fun z => absurd z.symm q) fun z => z⟩
    rw [key]
    exact q
theorem inV_ints (i : Int) (ns : List Int) : inV (.int i) (ns.map V.int) = decide (i ∈ ns) := by
  induction ns with
  | nil => rfl
  | cons n ns ih =>
    unfold inV at *
    rw [List.map_cons, List.any_cons, ih]
    show ((n == i) || decide (i ∈ ns)) = _
    by_cases q : n = i
    · subst q; simp
    · rw [beq_eq_false_iff_ne.mpr q, Bool.false_or]
      exact decide_eq_decide.mpr ⟨fun h => List.mem_cons_of_mem _ h, fun h => (List.mem_cons.mp h).elim (fun z => absurd z.symm q) fun z => z⟩
theorem flat_ints (ns : List Int) : (ns.map V.int).all flatV = true := by
  induction ns with
  | nil => rfl
  | cons n ns ih => rw [List.map_cons, List.all_cons, ih]; rfl
theorem v_in_ints {i : Int} {ns : List Int} : V2P K (inU K) (.int i) (.lst (ns.map D.int)) (.bl (decide (i ∈ ns))) := V2P.l (v2_done fun H0 H v w e hv hw => by
  obtain ⟨a, vs, rfl, h1, h2⟩ := hw.lst e
  have e2 := h2.ints
  subst e2
  rw [hv.int]
  exact ⟨.bl (inV (.int i) (ns.map V.int)), by show V.bl _ = V.bl _; rw [inV_ints], fun Q q => ⟨a, _, rfl, .inl (sq_of h1), rfl, flat_ints ns, q⟩⟩)
theorem v_nin_ints {i : Int} {ns : List Int} : V2P K (ninU K) (.int i) (.lst (ns.map D.int)) (.bl (!decide (i ∈ ns))) := V2P.l (v2_done fun H0 H v w e hv hw => by
  obtain ⟨a, vs, rfl, h1, h2⟩ := hw.lst e
  have e2 := h2.ints
  subst e2
  rw [hv.int]
  exact ⟨.bl (!inV (.int i) (ns.map V.int)), by show V.bl _ = V.bl _; rw [inV_ints], fun Q q => ⟨a, _, rfl, .inl (sq_of h1), rfl, flat_ints ns, q⟩⟩)
theorem v_in_intst {i : Int} {ns : List Int} : V2P K (inU K) (.int i) (.tup (ns.map D.int)) (.bl (decide (i ∈ ns))) := V2P.l (v2_done fun H0 H v w e hv hw => by
  obtain ⟨a, vs, rfl, h0, h1, h2⟩ := hw.tup e
  have e2 := h2.ints
  subst e2
  rw [hv.int]
  exact ⟨.bl (inV (.int i) (ns.map V.int)), by show V.bl _ = V.bl _; rw [inV_ints], fun Q q => ⟨a, _, rfl, .inr (st_of h1), rfl, flat_ints ns, q⟩⟩)
theorem v_nin_intst {i : Int} {ns : List Int} : V2P K (ninU K) (.int i) (.tup (ns.map D.int)) (.bl (!decide (i ∈ ns))) := V2P.l (v2_done fun H0 H v w e hv hw => by
  obtain ⟨a, vs, rfl, h0, h1, h2⟩ := hw.tup e
  have e2 := h2.ints
  subst e2
  rw [hv.int]
  exact ⟨.bl (!inV (.int i) (ns.map V.int)), by show V.bl _ = V.bl _; rw [inV_ints], fun Q q => ⟨a, _, rfl, .inr (st_of h1), rfl, flat_ints ns, q⟩⟩)
theorem evp_in (ha : EvB K ta S x) (hb : EvB K tb S y) (hr : V2P K (inU K) x y d) : EvP K (orE (tOp (inU K) ta tb) (tDIn ta tb)) S d := fun Pn pl G H0 H σ Rr Q q => .inl (evp_op ha hb hr Pn pl G H0 H σ Rr Q q)
theorem evp_nin (ha : EvB K ta S x) (hb : EvB K tb S y) (hr : V2P K (ninU K) x y d) : EvP K (orE (tOp (ninU K) ta tb) (tDNotIn ta tb)) S d := fun Pn pl G H0 H σ Rr Q q => .inl (evp_op ha hb hr Pn pl G H0 H σ Rr Q q)
/-! subscripts -/
theorem v_ixl {xs : List D} {i : Int} (h : atI xs i = some d) : V2P K (rIx K) (.lst xs) (.int i) d := v2_done fun H0 H v w e hv hw => by
  obtain ⟨a, vs, rfl, h1, h2⟩ := hv.lst e
  unfold atI at h
  cases q : ixN xs.length i with
  | none => rw [q] at h; cases h
  | some j =>
    rw [q] at h
    obtain ⟨v, hv1, hv2⟩ := h2.get (show xs[j]? = some d from h)
    refine ⟨v, hv2, fun Q k => .inl ⟨a, vs, i, v, rfl, hw.int, sq_of h1, ?_, k⟩⟩
    unfold atI
    rw [← h2.length, q]
    exact hv1
theorem v_ixt {xs : List D} {i : Int} (h : atI xs i = some d) : V2P K (rIx K) (.tup xs) (.int i) d := v2_done fun H0 H v w e hv hw => by
  obtain ⟨a, vs, rfl, h0, h1, h2⟩ := hv.tup e
  unfold atI at h
  cases q : ixN xs.length i with
  | none => rw [q] at h; cases h
  | some j =>
    rw [q] at h
    obtain ⟨v, hv1, hv2⟩ := h2.get (show xs[j]? = some d from h)
    refine ⟨v, hv2, fun Q k => .inr (.inl ⟨a, vs, i, v, rfl, hw.int, st_of h1, ?_, k⟩)⟩
    unfold atI
    rw [← h2.length, q]
    exact hv1
theorem evp_ix (ha : EvB K ta S x) (hb : EvB K tb S y) (hr : V2P K (rIx K) x y d) : EvP K (orE (tOp (rIx K) ta tb) (tDGet ta tb)) S d := fun Pn pl G H0 H σ Rr Q q => .inl (evp_op ha hb hr Pn pl G H0 H σ Rr Q q)
theorem evn_ix {R : D → List M → Prop} (h : EvN K (tOp (rIx K) ta tb) S R) : EvN K (orE (tOp (rIx K) ta tb) (tDGet ta tb)) S R := fun Pn pl G H0 H σ Rr Q q => .inl (h Pn pl G H0 H σ Rr Q q)
/-! dicts -/
def lkD {κ : Type} [DecidableEq κ] : List κ → List D → κ → Option D
  | k :: ks, x :: xs, j => if k = j then some x else lkD ks xs j
  | _, _, _ => none
def keyD : Key → D
  | .inl i => .int i
  | .inr s => .str s
theorem keyD_v {H0 H : Hp} {k : Key} {v : V} (h : Rb K H0 H (keyD k) v) : v = kV k := by
  cases k with
  | inl i => exact h.int
  | inr s => exact h.str
theorem lk_val {κ : Type} [DecidableEq κ] {H : Hp} : ∀ {ks : List κ} {ds : List D} {vs : List V} (j : κ), ks.length = vs.length → Rps K H ds vs →
    (∀ d, lkD ks ds j = some d → ∃ v, valV (ks.zip vs) j = some v ∧ Rp K H d v) ∧ (lkD ks ds j = none → valV (ks.zip vs) j = none)
  | [], ds, vs, j, hl, h => by
    cases ds <;> exact ⟨fun d e => by simp [lkD] at e, fun _ => rfl⟩
  | k :: ks, [], vs, j, hl, h => by
    have e : vs = [] := by unfold Rps at h; exact h
    subst e
    cases hl
  | k :: ks, x :: ds, vs, j, hl, h => by
    obtain ⟨v, r, rfl, h1, h2⟩ := (show ∃ v r, vs = v :: r ∧ Rp K H x v ∧ Rps K H ds r by unfold Rps at h; exact h)
    have hl' : ks.length = r.length := by simpa using hl
    by_cases q : k = j
    · refine ⟨fun d e => ⟨v, ?_, ?_⟩, fun e => ?_⟩
      · rw [List.zip_cons_cons]; exact valV_pos (p := (k, v)) q
      · simp only [lkD, if_pos q] at e; cases e; exact h1
      · simp only [lkD, if_pos q] at e; cases e
    · have ih := lk_val j hl' h2
      simp only [lkD, if_neg q]
      rw [List.zip_cons_cons, valV_neg (p := (k, v)) q]
      exact ih
theorem evp_dget {k : Key} {ks : List Key} {xs : List D} (ha : EvB K ta S (.dk ks xs)) (hb : EvB K tb S (keyD k)) (h : lkD ks xs k = some d) : EvP K (orE (tOp (rIx K) ta tb) (tDGet ta tb)) S d := fun Pn pl G H0 H σ Rr Q q => .inr
  (ha Pn pl G H0 H σ Rr _ fun v H01 H1 g1 e1 R1 p1 => hb Pn pl G H01 H1 σ R1 _ fun w H02 H2 g2 e2 R2 p2 => by
    obtain ⟨a, vs, rfl, h1, hl, h2⟩ := (p1.mono g2.ex e2).dk R2.e0
    obtain ⟨v, hv, rv⟩ := (lk_val k hl h2).1 d h
    rw [keyD_v p2]
    refine ⟨a, v, rfl, ?_, q v H02 H2 (g1.trans g2) (e1.trans e2) R2 rv⟩
    rw [← hv]
    exact DGet.k h1)
/-- d[k], the key reckoned by what may change things -/
theorem evp_dgeti {i : Int} {ks : List Key} {xs : List D} (ha : EvB K ta S (.dk ks xs)) (hb : EvB K tb S (.int i)) (h : lkD ks xs (.inl i) = some d) : EvP K (orE (tOp (rIx K) ta tb) (tDGet ta tb)) S d := evp_dget (k := .inl i) ha hb h
theorem lk_mem {κ : Type} [DecidableEq κ] : ∀ (ks : List κ) (xs : List D) (j : κ), ks.length = xs.length → ((lkD ks xs j).isSome = true ↔ j ∈ ks)
  | [], xs, j, _ => by cases xs <;> simp [lkD]
  | k :: ks, [], j, h => by cases h
  | k :: ks, x :: xs, j, h => by
    have ih := lk_mem ks xs j (by simpa using h)
    by_cases q : k = j
    · simp [lkD, q]
    · simp only [lkD, if_neg q, ih, List.mem_cons]
      exact ⟨fun h => .inr h, fun h => h.elim (fun z => absurd z.symm q) fun z => z⟩
theorem lk_some {H : Hp} {ks : List Key} {ds : List D} {vs : List V} (k : Key) (hl : ks.length = vs.length) (h : Rps K H ds vs) : (valV (ks.zip vs) k).isSome = (lkD ks ds k).isSome := by
  have hv := lk_val k hl h
  cases z : lkD ks ds k with
  | none => rw [hv.2 z]; rfl
  | some d => obtain ⟨v, e, _⟩ := hv.1 d z; rw [e]; rfl
theorem evp_din {k : Key} {ks : List Key} {xs : List D} (ha : EvB K ta S (keyD k)) (hb : EvB K tb S (.dk ks xs)) : EvP K (orE (tOp (inU K) ta tb) (tDIn ta tb)) S (.bl (lkD ks xs k).isSome) := fun Pn pl G H0 H σ Rr Q q => .inr
  (ha Pn pl G H0 H σ Rr _ fun v H01 H1 g1 e1 R1 p1 => hb Pn pl G H01 H1 σ R1 _ fun w H02 H2 g2 e2 R2 p2 => by
    obtain ⟨a, vs, rfl, h1, hl, h2⟩ := p2.dk R2.e0
    rw [keyD_v p1]
    refine ⟨a, _, rfl, DGet.k h1, q _ H02 H2 (g1.trans g2) (e1.trans e2) R2 ?_⟩
    show V.bl _ = V.bl _
    rw [lk_some k hl h2])
theorem evp_dnin {k : Key} {ks : List Key} {xs : List D} (ha : EvB K ta S (keyD k)) (hb : EvB K tb S (.dk ks xs)) : EvP K (orE (tOp (ninU K) ta tb) (tDNotIn ta tb)) S (.bl (!(lkD ks xs k).isSome)) := fun Pn pl G H0 H σ Rr Q q => .inr
  (ha Pn pl G H0 H σ Rr _ fun v H01 H1 g1 e1 R1 p1 => hb Pn pl G H01 H1 σ R1 _ fun w H02 H2 g2 e2 R2 p2 => by
    obtain ⟨a, vs, rfl, h1, hl, h2⟩ := p2.dk R2.e0
    rw [keyD_v p1]
    refine ⟨a, _, rfl, DGet.k h1, q _ H02 H2 (g1.trans g2) (e1.trans e2) R2 ?_⟩
    show V.bl _ = V.bl _
    rw [lk_some k hl h2])
/-- d.get(k, x) -/
theorem evp_dget2 {k : Key} {ks : List Key} {xs : List D} {tx : TE} (ha : EvB K ta S (.dk ks xs)) (hb : EvB K tb S (keyD k)) (hx : EvP K tx S z) : EvP K (tDGet2 ta tb tx) S ((lkD ks xs k).getD z) := fun Pn pl G H0 H σ Rr Q q =>
  ha Pn pl G H0 H σ Rr _ fun v H01 H1 g1 e1 R1 p1 => by
    obtain ⟨a, vs, rfl, h1, hl, h2⟩ := p1.dk R1.e0
    refine ⟨a, rfl, .inl ⟨_, .inl h1⟩, hb Pn pl G H01 H1 σ R1 _ fun w H02 H2 g2 e2 R2 p2 => hx Pn pl G H02 H2 σ R2 _ fun u H03 H3 g3 e3 R3 p3 => ?_⟩
    rw [keyD_v p2]
    refine ⟨_, DGet.k (e3 _ _ (e2 _ _ h1)), q _ H03 H3 ((g1.trans g2).trans g3) ((e1.trans e2).trans e3) R3 ?_⟩
    have hv := lk_val k hl h2
    cases q : lkD ks xs k with
    | none => rw [hv.2 q]; exact p3
    | some d => obtain ⟨v, e, r⟩ := hv.1 d q; rw [e]; exact Rp.mono (g2.ex.trans g3.ex) _ _ r
theorem evp_dget1 {k : Key} {ks : List Key} {xs : List D} (ha : EvB K ta S (.dk ks xs)) (hb : EvB K tb S (keyD k)) : EvP K (tDGet1 ta tb) S ((lkD ks xs k).getD .non) := fun Pn pl G H0 H σ Rr Q q =>
  ha Pn pl G H0 H σ Rr _ fun v H01 H1 g1 e1 R1 p1 => by
    obtain ⟨a, vs, rfl, h1, hl, h2⟩ := p1.dk R1.e0
    refine ⟨a, rfl, .inl ⟨_, .inl h1⟩, hb Pn pl G H01 H1 σ R1 _ fun w H02 H2 g2 e2 R2 p2 => ?_⟩
    rw [keyD_v p2]
    refine ⟨_, DGet.k (e2 _ _ h1), q _ H02 H2 (g1.trans g2) (e1.trans e2) R2 ?_⟩
    have hv := lk_val k hl h2
    cases q : lkD ks xs k with
    | none => rw [hv.2 q]; rfl
    | some d => obtain ⟨v, e, r⟩ := hv.1 d q; rw [e]; exact Rp.mono g2.ex _ _ r
/-! slices -/
def PtP (K : PySem.W.Frag) (to : TO) (S : List M) (o : Option Int) : Prop := ∀ Pn pl G H0 H σ, Rs K Pn pl G H0 H σ S → ∀ Q : Option Int → Hp → Prop, (∀ H0' H', Gr G H0 H0' → Ex H H' → Rs K Pn pl G H0' H' σ S → Q o H') → to σ H Q
theorem ptp_none : PtP K tNoPart S none := fun Pn pl G H0 H σ Rr Q q => q H0 H (Gr.refl _ _) (Ex.refl _) Rr
theorem ptp_some {i : Int} (h : EvP K te S (.int i)) : PtP K (tPart te) S (some i) := fun Pn pl G H0 H σ Rr Q q => h Pn pl G H0 H σ Rr _ fun v H01 H1 g1 e1 R1 p1 => ⟨i, p1, q H01 H1 g1 e1 R1⟩
def cutD (xs : List D) (lo hi : Option Int) : List D := (xs.drop (HT.sIx xs.length 0 lo)).take (HT.sIx xs.length xs.length hi - HT.sIx xs.length 0 lo)
theorem evf_sll {tl th : TO} {xs : List D} {lo hi : Option Int} (ha : EvB K te S (.lst xs)) (h1 : PtP K tl S lo) (h2 : PtP K th S hi) : EvF K (tSl (slU K) te tl th) S (.lst (cutD xs lo hi)) := fun Pn pl G H0 H σ Rr Q q =>
  ha Pn pl G H0 H σ Rr _ fun v H01 H1 g1 e1 R1 p1 => h1 Pn pl G H01 H1 σ R1 _ fun H02 H2 g2 e2 R2 => h2 Pn pl G H02 H2 σ R2 _ fun H03 H3 g3 e3 R3 => by
    obtain ⟨a, vs, rfl, k1, k2⟩ := (p1.mono (g2.ex.trans g3.ex) (e2.trans e3)).lst R3.e0
    refine .inl ⟨a, vs, rfl, sq_of k1, fun p hp => ?_⟩
    obtain ⟨R4, a1, b1, c1, e4⟩ := R3.new_own (o := .lst (cutV vs lo hi)) hp
    refine q p H03 _ ((g1.trans g2).trans g3) (((e1.trans e2).trans e3).trans e4) R4 a1 b1 c1 ⟨_, upd_same, ?_⟩
    unfold cutV cutD
    rw [← k2.length]
    exact (k2.drop _).take _
theorem evp_slt {tl th : TO} {xs : List D} {lo hi : Option Int} (ha : EvB K te S (.tup xs)) (h1 : PtP K tl S lo) (h2 : PtP K th S hi) : EvP K (tSl (slU K) te tl th) S (.tup (cutD xs lo hi)) := fun Pn pl G H0 H σ Rr Q q =>
  ha Pn pl G H0 H σ Rr _ fun v H01 H1 g1 e1 R1 p1 => h1 Pn pl G H01 H1 σ R1 _ fun H02 H2 g2 e2 R2 => h2 Pn pl G H02 H2 σ R2 _ fun H03 H3 g3 e3 R3 => by
    obtain ⟨a, vs, rfl, k0, k1, k2⟩ := (p1.mono (g2.ex.trans g3.ex) (e2.trans e3)).tup R3.e0
    refine .inr ⟨a, vs, rfl, st_of k1, fun hw => ?_, fun hw p hp => ?_⟩
    · refine q _ H03 H3 ((g1.trans g2).trans g3) ((e1.trans e2).trans e3) R3 ⟨a, vs, rfl, k0, ?_⟩
      rw [← k2.length] at hw
      have e : cutD xs lo hi = xs := by
        unfold cutD
        rw [hw.1, hw.2, List.drop_zero, Nat.sub_zero, List.take_length]
      rw [e]; exact k2
    · obtain ⟨g4, e4, R4⟩ := R3.lay (o := .tup (cutV vs lo hi)) hp
      refine q _ _ _ (((g1.trans g2).trans g3).trans g4) (((e1.trans e2).trans e3).trans e4) R4 ⟨p, _, rfl, upd_same, Rps.mono g4.ex _ _ ?_⟩
      unfold cutV cutD
      rw [← k2.length]
      exact (k2.drop _).take _
theorem cutD_to (xs : List D) (n : Nat) : cutD xs none (some (n : Int)) = xs.take n := by
  unfold cutD
  rw [HT.sIx_none, HT.sIx_nat, Nat.sub_zero, List.drop_zero]
  by_cases h : n ≤ xs.length
  · rw [Nat.min_eq_left h]
  · rw [Nat.min_eq_right (by omega), List.take_of_length_le (Nat.le_refl _), List.take_of_length_le (by omega)]
theorem cutD_from (xs : List D) (n : Nat) : cutD xs (some (n : Int)) none = xs.drop n := by
  unfold cutD
  rw [HT.sIx_none, HT.sIx_nat]
  by_cases h : n ≤ xs.length
  · rw [Nat.min_eq_left h, List.take_of_length_le (by rw [List.length_drop]; omega)]
  · rw [Nat.min_eq_right (by omega), List.drop_of_length_le (Nat.le_refl _), List.drop_of_length_le (by omega), List.take_nil]
theorem cutD_mid (xs : List D) (n m : Nat) : cutD xs (some (n : Int)) (some (m : Int)) = (xs.take m).drop n := by
  unfold cutD
  rw [HT.sIx_nat, HT.sIx_nat, List.drop_take]
  by_cases h : n ≤ xs.length
  · rw [Nat.min_eq_left h]
    by_cases k : m ≤ xs.length
    · rw [Nat.min_eq_left k]
    · rw [Nat.min_eq_right (by omega), List.take_of_length_le (by rw [List.length_drop]; omega), List.take_of_length_le (by rw [List.length_drop]; omega)]
  · rw [Nat.min_eq_right (show xs.length ≤ n by omega), List.drop_of_length_le (Nat.le_refl _), List.drop_of_length_le (show xs.length ≤ n by omega), List.take_nil, List.take_nil]
/-! isinstance -/
def tyN : D → Option String
  | .non => some "NoneType"
  | .bl _ => some "bool"
  | .int _ => some "int"
  | .str _ => some "str"
  | .tup _ => some "tuple"
  | .lst _ => some "list"
  | .dk _ _ => some "dict"
  | .dt _ _ => some "dict"
  | _ => none
theorem tyX_of {H : Hp} {n : String} {v : V} : ∀ {d : D}, tyN d = some n → Rp K H d v → TyX K H v (.type n)
  | .non, e, h => by cases e; cases (show v = .non from h); exact .base .non
  | .bl b, e, h => by cases e; cases (show v = .bl b from h); exact .base (.bl b)
  | .int b, e, h => by cases e; cases (show v = .int b from h); exact .base (.int b)
  | .str b, e, h => by cases e; cases (show v = .str b from h); exact .base (.str b)
  | .tup xs, e, h => by
    cases e
    unfold Rp at h
    obtain ⟨a, vs, rfl, h1, _⟩ := h
    exact .base (.tup h1)
  | .lst xs, e, h => by
    cases e
    unfold Rp at h
    obtain ⟨a, vs, rfl, h1, _⟩ := h
    exact .base (.lst h1)
  | .dk _ _, e, h => by
    cases e
    unfold Rp at h
    obtain ⟨a, vs, rfl, h1, _⟩ := h
    exact .base (.dK h1)
  | .dt _ _, e, h => by
    cases e
    unfold Rp at h
    obtain ⟨a, vs, rfl, h1, _⟩ := h
    exact .base (.dT h1)
  | .ins _ _ _, e, h => by cases e
  | .ty _, e, h => by cases e
theorem v_isi {n m : String} {b : Bool} (h : tyN x = some n) (hb : kitB n m = some b) : V2P K (r2 (rIsi K)) x (.ty m) (.bl b) := v2_done fun H0 H v w e hv hw =>
  ⟨.bl b, rfl, fun Q q => ⟨v, .ty m, .type n, .type m, b, by rw [hw.ty], .ty m, tyX_of h (hv.rp e), kit_ty hb, q⟩⟩
/-! fields -/
theorem lk_lookup {H : Hp} : ∀ {ns : List PySem.Str} {ds : List D} {vs : List V} (f : PySem.Str), ns.length = vs.length → Rps K H ds vs → ∀ d, lkD ns ds f = some d → ∃ v, (ns.zip vs).lookup f = some v ∧ Rp K H d v
  | [], ds, vs, f, hl, h => by cases ds <;> exact fun d e => by simp [lkD] at e
  | k :: ns, [], vs, f, hl, h => by
    have e : vs = [] := by unfold Rps at h; exact h
    subst e
    cases hl
  | k :: ns, x :: ds, vs, f, hl, h => by
    obtain ⟨v, r, rfl, h1, h2⟩ := (show ∃ v r, vs = v :: r ∧ Rp K H x v ∧ Rps K H ds r by unfold Rps at h; exact h)
    have hl' : ns.length = r.length := by simpa using hl
    intro d e
    rw [List.zip_cons_cons]
    by_cases q : k = f
    · subst q
      simp only [lkD, if_pos] at e
      cases e
      exact ⟨v, by simp [List.lookup], h1⟩
    · simp only [lkD, if_neg q] at e
      obtain ⟨w, e1, e2⟩ := lk_lookup f hl' h2 d e
      have hb : (f == k) = false := beq_eq_false_iff_ne.mpr fun z => q z.symm
      exact ⟨w, by simp only [List.lookup, hb]; exact e1, e2⟩
theorem evp_fld {C : Addr} {ns : List PySem.Str} {ds : List D} {f : PySem.Str} (c : Cls K C) (n : NoAttr K C f) (ha : EvB K ta S (.ins C ns ds)) (h : lkD ns ds f = some d) : EvP K (tFld K ta f) S d := fun Pn pl G H0 H σ Rr Q q =>
  ha Pn pl G H0 H σ Rr _ fun v H01 H1 g1 e1 R1 p1 => by
    obtain ⟨a, dx, vs, rfl, k1, hl, k2⟩ := p1.ins R1.e0
    obtain ⟨w, e1', e2'⟩ := lk_lookup f hl k2 d h
    exact ⟨a, C, dx, _, w, rfl, k1, c, n, e1', q w H01 H1 g1 e1 R1 e2'⟩
end
end Dl
/-! Statements, loops, comprehensions, over slots. -/
namespace Dl
open PySem L2 Evl

structure Post where
  nx : List M → Prop
  rt : D → List M → Prop
  bk : List M → Prop
  ct : List M → Prop
def StN (K : PySem.W.Frag) (Pn : List Nat) (ts : TS) (S : List M) (P : Post) : Prop := ∀ pl G H0 H σ, Rs K Pn pl G H0 H σ S → ∀ E : Ends,
  (∀ S' σ' H0' H', P.nx S' → Gr G H0 H0' → Rs K Pn pl G H0' H' σ' S' → E.nx σ' H') →
  (∀ d S' σ' v H0' H', P.rt d S' → Gr G H0 H0' → Rs K Pn pl G H0' H' σ' S' → Rp K H0' d v → E.rt v H') →
  (∀ S' σ' H0' H', P.bk S' → Gr G H0 H0' → Rs K Pn pl G H0' H' σ' S' → E.bk σ' H') →
  (∀ S' σ' H0' H', P.ct S' → Gr G H0 H0' → Rs K Pn pl G H0' H' σ' S' → E.ct σ' H') → ts E σ H

section
variable {K : PySem.W.Frag} {Pn : List Nat} {S : List M} {P : Post} {te ta tl : TE} {tt : TT} {t u : TS} {i : Nat} {x d : D}
/-- something is known less far back -/
theorem StN.weak {Q : Post} (h : StN K Pn t S Q) (h1 : ∀ S', Q.nx S' → P.nx S') (h2 : ∀ d S', Q.rt d S' → P.rt d S') (h3 : ∀ S', Q.bk S' → P.bk S') (h4 : ∀ S', Q.ct S' → P.ct S') : StN K Pn t S P :=
  fun pl G H0 H σ R E a b c e => h pl G H0 H σ R E (fun S' σ' H0' H' p => a S' σ' H0' H' (h1 _ p)) (fun d S' σ' v H0' H' p => b d S' σ' v H0' H' (h2 _ _ p)) (fun S' σ' H0' H' p => c S' σ' H0' H' (h3 _ p)) (fun S' σ' H0' H' p => e S' σ' H0' H' (h4 _ p))
theorem st_nil (h : P.nx S) : StN K Pn tNext S P := fun pl G H0 H σ R E a b c e => a S σ H0 H h (Gr.refl _ _) R
theorem st_seq (h : StN K Pn t S { P with nx := fun S' => StN K Pn u S' P }) : StN K Pn (tSeq t u) S P := fun pl G H0 H σ R E a b c e =>
  h pl G H0 H σ R { E with nx := u E } (fun S1 σ1 H01 H1 hu g1 R1 => hu pl G H01 H1 σ1 R1 E (fun S2 σ2 H02 H2 p g2 R2 => a S2 σ2 H02 H2 p (g1.trans g2) R2) (fun d S2 σ2 v H02 H2 p g2 R2 q => b d S2 σ2 v H02 H2 p (g1.trans g2) R2 q)
    (fun S2 σ2 H02 H2 p g2 R2 => c S2 σ2 H02 H2 p (g1.trans g2) R2) (fun S2 σ2 H02 H2 p g2 R2 => e S2 σ2 H02 H2 p (g1.trans g2) R2)) b c e
theorem st_brk (h : P.bk S) : StN K Pn tBreak S P := fun pl G H0 H σ R E a b c e => c S σ H0 H h (Gr.refl _ _) R
theorem st_cnt (h : P.ct S) : StN K Pn tCont S P := fun pl G H0 H σ R E a b c e => e S σ H0 H h (Gr.refl _ _) R
theorem st_ret (h : EvN K te S P.rt) : StN K Pn (tRet te) S P := fun pl G H0 H σ R E a b c e => h Pn pl G H0 H σ R _ fun d S' v H0' H' r g R' p => b d S' σ v H0' H' r g R' p
theorem st_retN (h : P.rt .non S) : StN K Pn tRetN S P := fun pl G H0 H σ R E a b c e => b .non S σ .non H0 H h (Gr.refl _ _) R rfl
theorem st_expr (h : EvN K te S fun _ S' => P.nx S') : StN K Pn (tDrop te) S P := fun pl G H0 H σ R E a b c e => h Pn pl G H0 H σ R _ fun d S' v H0' H' r g R' p => a S' σ H0' H' r g R'
theorem st_if (h : TpN K tt S fun b S' => (b = true → StN K Pn t S' P) ∧ (b = false → StN K Pn u S' P)) : StN K Pn (tIfS tt t u) S P := fun pl G H0 H σ R E a b c e =>
  h Pn pl G H0 H σ R _ fun k S1 H01 H1 ⟨k1, k2⟩ g1 R1 => by
    have fin : ∀ w : TS, StN K Pn w S1 P → w E σ H1 := fun w hw => hw pl G H01 H1 σ R1 E (fun S2 σ2 H02 H2 p g2 R2 => a S2 σ2 H02 H2 p (g1.trans g2) R2) (fun d S2 σ2 v H02 H2 p g2 R2 q => b d S2 σ2 v H02 H2 p (g1.trans g2) R2 q)
      (fun S2 σ2 H02 H2 p g2 R2 => c S2 σ2 H02 H2 p (g1.trans g2) R2) (fun S2 σ2 H02 H2 p g2 R2 => e S2 σ2 H02 H2 p (g1.trans g2) R2)
    cases k with
    | true => exact fin t (k1 rfl)
    | false => exact fin u (k2 rfl)
theorem st_set (hi : i ∉ Pn) (h : EvN K te S fun d S' => P.nx (S'.set i (.d d))) : StN K Pn (tAsg te (gName i)) S P := fun pl G H0 H σ R E a b c e =>
  h Pn pl G H0 H σ R _ fun d S' v H0' H' r g R' p => a _ _ H0' H' r g (R'.setd p hi)
theorem st_seto (hi : i ∉ Pn) (h : EvO K te S fun d S' => P.nx (S'.set i (.o d))) : StN K Pn (tAsg te (gName i)) S P := fun pl G H0 H σ R E a b c e =>
  h Pn pl G H0 H σ R _ fun d S' p H0' H' r g R' n0 ng ap o => a _ _ H0' H' r g (R'.seto n0 ng o ap hi)
/-- an own object becomes data for good -/
theorem st_frz {m : M} (hs : S[i]? = some m) (hm : m = .o x) (hi : i ∉ Pn) (h : StN K Pn t (S.set i (.d x)) P) : StN K Pn t S P := fun pl G H0 H σ R E a b c e => by
  subst hm
  obtain ⟨ov, h1, l, e1, h2, h3, h4⟩ := R.sl i _ hs
  subst e1
  have ap : ∀ (j : Nat) (m' : M), (S.set i .no)[j]? = some m' → m'.own = true → σ[j]? ≠ some (some (V.ref l)) := fun j m' hj ho z => by
    by_cases q : i = j
    · subst q
      rw [List.getElem?_set_self (List.getElem?_eq_some_iff.mp hs).1] at hj
      cases hj; cases ho
    · rw [List.getElem?_set_ne q] at hj
      exact q (R.ap i j _ m' hs hj rfl ho (by rw [h1, z]))
  have R1 : Rs K Pn pl G H0 H σ (S.set i .no) := by
    have := R.setn (ov := some (.ref l)) hi
    rwa [show σ.set i (some (V.ref l)) = σ from by
      apply List.ext_getElem?
      intro j
      by_cases q : i = j
      · subst q
        rw [List.getElem?_set_self (List.getElem?_eq_some_iff.mp h1).1, h1]
      · rw [List.getElem?_set_ne q]] at this
  obtain ⟨H1, g1, R2, rp⟩ := ro_frz R1 h2 h3 ap h4
  have R3 := R2.setd (i := i) (x := x) (v := .ref l) rp hi
  have e2 : σ.set i (some (V.ref l)) = σ := by
    apply List.ext_getElem?
    intro j
    by_cases q : i = j
    · subst q
      rw [List.getElem?_set_self (List.getElem?_eq_some_iff.mp h1).1, h1]
    · rw [List.getElem?_set_ne q]
  rw [e2, List.set_set] at R3
  exact h pl G H1 H σ R3 E (fun S2 σ2 H02 H2 p g2 R2 => a S2 σ2 H02 H2 p (g1.trans g2) R2) (fun d S2 σ2 v H02 H2 p g2 R2 q => b d S2 σ2 v H02 H2 p (g1.trans g2) R2 q)
    (fun S2 σ2 H02 H2 p g2 R2 => c S2 σ2 H02 H2 p (g1.trans g2) R2) (fun S2 σ2 H02 H2 p g2 R2 => e S2 σ2 H02 H2 p (g1.trans g2) R2)
theorem st_imp {S' : List M} (e : S = S') (h : StN K Pn t S' P) : StN K Pn t S P := e ▸ h
/-- what is known of an own object is opened -/
theorem st_open {φ : D → Prop} (hs : S[i]? = some (.e φ)) (h : ∀ x, φ x → StN K Pn t (S.set i (.o x)) P) : StN K Pn t S P := fun pl G H0 H σ R => by
  obtain ⟨ov, h1, l, x, hx, e1, h2, h3, h4⟩ := R.sl i _ hs
  subst e1
  refine h x hx pl G H0 H σ ?_
  refine ⟨by rw [List.length_set]; exact R.len, R.e0, R.eg, fun j m hj => ?_, fun p q a b ha hb hma hmb hs' => ?_, R.pin⟩
  · by_cases q : i = j
    · subst q
      rw [List.getElem?_set_self (List.getElem?_eq_some_iff.mp hs).1] at hj
      cases hj
      exact ⟨_, h1, l, rfl, h2, h3, h4⟩
    · rw [List.getElem?_set_ne q] at hj
      exact R.sl j m hj
  · have at_ : ∀ (c : Nat) (q : M), (S.set i (.o x))[c]? = some q → q.own = true → ∃ q' : M, S[c]? = some q' ∧ q'.own = true := fun c q hc hq => by
      by_cases z : i = c
      · subst z; exact ⟨_, hs, rfl⟩
      · rw [List.getElem?_set_ne z] at hc; exact ⟨q, hc, hq⟩
    obtain ⟨a', x1, x2⟩ := at_ p a ha hma
    obtain ⟨b', y1, y2⟩ := at_ q b hb hmb
    exact R.ap p q a' b' x1 y1 x2 y2 hs'
/-- what is known of an own object is closed -/
theorem Rs.close {G H0 H : Hp} {σ : L2.St} {pl : Nat → V} {φ : D → Prop} (R : Rs K Pn pl G H0 H σ S) (hs : S[i]? = some (.o x)) (hx : φ x) : Rs K Pn pl G H0 H σ (S.set i (.e φ)) := by
  obtain ⟨ov, h1, l, e1, h2, h3, h4⟩ := R.sl i _ hs
  subst e1
  refine ⟨by rw [List.length_set]; exact R.len, R.e0, R.eg, fun j m hj => ?_, fun p q a b ha hb hma hmb hs' => ?_, R.pin⟩
  · by_cases q : i = j
    · subst q
      rw [List.getElem?_set_self (List.getElem?_eq_some_iff.mp hs).1] at hj
      cases hj
      exact ⟨_, h1, l, x, hx, rfl, h2, h3, h4⟩
    · rw [List.getElem?_set_ne q] at hj
      exact R.sl j m hj
  · have at_ : ∀ (c : Nat) (q : M), (S.set i (.e φ))[c]? = some q → q.own = true → ∃ q' : M, S[c]? = some q' ∧ q'.own = true := fun c q hc hq => by
      by_cases z : i = c
      · subst z; exact ⟨_, hs, rfl⟩
      · rw [List.getElem?_set_ne z] at hc; exact ⟨q, hc, hq⟩
    obtain ⟨a', x1, x2⟩ := at_ p a ha hma
    obtain ⟨b', y1, y2⟩ := at_ q b hb hmb
    exact R.ap p q a' b' x1 y1 x2 y2 hs'
/-! ### own lists: append, pop; own dicts: d[k] = v; own instances: o.f = v; xs[i] = v -/
theorem evn_append {ys : List D} {R : D → List M → Prop} (h0 : S[i]? = some (.o (.lst ys))) (h : EvN K te S fun d S' => ∃ xs, S'[i]? = some (.o (.lst xs)) ∧ xs.length < 100000 ∧ R .non (S'.set i (.o (.lst (xs ++ [d]))))) :
    EvN K (tBM K "list" rAppend (tVar i) (tCons te tNil)) S R := fun Pn pl G H0 H σ Rr Q q => by
  obtain ⟨ov, h1, l, e1, h2, h3, vs, h4, h5⟩ := Rr.sl i _ h0
  subst e1
  refine ⟨_, h1, .inl ⟨rfl, vs, sq_of h4⟩, h Pn pl G H0 H σ Rr _ fun d S' v H0' H' ⟨xs, k1, k2, k3⟩ g R' p => ?_⟩
  obtain ⟨ov', h1', l', e1', h2', h3', vs', h4', h5'⟩ := R'.sl i _ k1
  subst e1'
  rw [h1] at h1'
  cases h1'
  refine ⟨l, vs', v, rfl, rfl, h4', sz_lt (by rw [← h5'.length]; exact k2), ?_⟩
  exact q .non _ .non H0' _ k3 g (R'.write (o := .lst (vs' ++ [v])) k1 rfl h1 ⟨_, upd_same, h5'.append ⟨v, [], rfl, p, rfl⟩⟩) rfl
theorem evn_pop {xs : List D} {R : D → List M → Prop} (h0 : S[i]? = some (.o (.lst (xs ++ [d])))) (r : R d (S.set i (.o (.lst xs)))) : EvN K (tBM0 K "list" rPop (tVar i)) S R := fun Pn pl G H0 H σ Rr Q q => by
  obtain ⟨ov, h1, l, e1, h2, h3, vs, h4, h5⟩ := Rr.sl i _ h0
  subst e1
  have hl := h5.length
  rw [List.length_append, List.length_singleton] at hl
  obtain ⟨w, hw, rw_⟩ := h5.get (i := xs.length) (d := d) (by rw [List.getElem?_append_right (Nat.le_refl _), Nat.sub_self]; rfl)
  refine ⟨_, h1, .inl ⟨rfl, vs, sq_of h4⟩, l, vs, w, rfl, rfl, h4, by rw [← hl, Nat.add_sub_cancel]; exact hw, ?_⟩
  refine q d _ w H0 _ r (Gr.refl _ _) (Rr.write (o := .lst vs.dropLast) h0 rfl h1 ⟨_, upd_same, ?_⟩) rw_
  have := h5.take xs.length
  rw [List.take_left] at this
  rwa [List.dropLast_eq_take, ← hl, Nat.add_sub_cancel]
/-- xs[k] = v -/
theorem st_setix {tb : TE} {j : Nat} (h0 : ∃ ys, S[i]? = some (.o (.lst ys))) (h : EvN K te S fun d S1 => (∃ ys, S1[i]? = some (.o (.lst ys))) ∧ EvN K tb S1 fun y S2 => ∃ (k : Int) (xs : List D), y = .int k ∧ S2[i]? = some (.o (.lst xs)) ∧ ixN xs.length k = some j ∧ P.nx (S2.set i (.o (.lst (xs.set j d))))) :
    StN K Pn (tAsg te (gSub (tVar i) tb rSetL)) S P := fun pl G H0 H σ Rr E a b c e => h Pn pl G H0 H σ Rr _ fun d S1 v H01 H1 ⟨⟨ys, k0⟩, h2⟩ g1 R1 p1 => by
  obtain ⟨ov, h1, l, e1, _, _, vs, h4, h5⟩ := R1.sl i _ k0
  subst e1
  refine ⟨_, h1, h2 Pn pl G H01 H1 σ R1 _ fun y S2 w H02 H2 ⟨k, xs, e2, k1, k2, k3⟩ g2 R2 p2 => ?_⟩
  subst e2
  obtain ⟨ov', h1', l', e1', h2', h3', vs', h4', h5'⟩ := R2.sl i _ k1
  subst e1'
  rw [h1] at h1'
  cases h1'
  refine ⟨l, vs', k, j, rfl, p2, h4', by rw [← h5'.length]; exact k2, ?_⟩
  refine a _ _ H02 _ k3 (g1.trans g2) (R2.write (o := .lst (vs'.set j v)) k1 rfl h1 ⟨_, upd_same, ?_⟩)
  exact Rps.set j h5' (Rp.mono g2.ex _ _ p1)
end
end Dl
/-! What is walked, targets, for, while, comprehensions, over slots. -/
namespace Dl
open PySem L2 Evl

/-- the iterator J gives the items ds in turn, as long as Src stands; their parts as H0 tells -/
structure Jk (K : PySem.W.Frag) (J : It) (Src H0 : Hp) (ds : List D) : Prop where
  go : ∀ (i : Nat) (H : Hp), Ex Src H → i < ds.length → J.go i H
  stop : ∀ (i : Nat) (H : Hp), Ex Src H → ds.length ≤ i → J.stop i H
  yld : ∀ (i : Nat) (H : Hp) (x : V) (H' : Hp) (d : D), Ex Src H → ds[i]? = some d → J.yld i H x H' →
    (H' = H ∧ Rp K H0 d x) ∨ ∃ (T : Addr) (es : List D) (vs : List V), H T = none ∧ H' = upd H T (.tup vs) ∧ x = .ref T ∧ d = .tup es ∧ Rps K H0 es vs
def WkB (K : PySem.W.Frag) (wi : TI) (S : List M) (ds : List D) : Prop := ∀ Pn pl G H0 H σ, Rs K Pn pl G H0 H σ S → ∀ R : It → Hp → Prop,
  (∀ J H0' H', Gr G H0 H0' → Ex H H' → Rs K Pn pl G H0' H' σ S → Jk K J H' H0' ds → R J H') → wi σ H R
def WkP (K : PySem.W.Frag) (wi : TI) (S : List M) (ds : List D) : Prop := ∀ Pn pl G H0 H σ, Rs K Pn pl G H0 H σ S → ∀ R : It → Hp → Prop,
  (∀ J H0' H', Gr G H0 H0' → Ex H H' → Rs K Pn pl G H0' H' σ S → Jk K J H0' H0' ds → R J H') → wi σ H R
/-- the walked thing is reckoned by what may change things -/
def WkN (K : PySem.W.Frag) (wi : TI) (S : List M) (R : List D → List M → Prop) : Prop := ∀ Pn pl G H0 H σ, Rs K Pn pl G H0 H σ S → ∀ Q : It → Hp → Prop,
  (∀ ds S' J H0' H', R ds S' → Gr G H0 H0' → Rs K Pn pl G H0' H' σ S' → Jk K J H0' H0' ds → Q J H') → wi σ H Q
section
variable {K : PySem.W.Frag} {S : List M} {tl ta tb : TE} {ds : List D} {wi : TI}
theorem Jk.mono {J : It} {A B H0 : Hp} (h : Jk K J A H0 ds) (e : Ex A B) : Jk K J B H0 ds := ⟨fun i H k => h.go i H (e.trans k), fun i H k => h.stop i H (e.trans k), fun i H x H' d k => h.yld i H x H' d (e.trans k)⟩
theorem WkP.b (h : WkP K wi S ds) : WkB K wi S ds := fun Pn pl G H0 H σ Rr R q => h Pn pl G H0 H σ Rr R fun J H0' H' g e R' j => q J H0' H' g e R' (j.mono R'.e0)
theorem WkP.n {R : List D → List M → Prop} (h : WkP K wi S ds) (r : R ds S) : WkN K wi S R := fun Pn pl G H0 H σ Rr Q q => h Pn pl G H0 H σ Rr Q fun J H0' H' g e R' j => q ds S J H0' H' r g R' j
theorem sqL_inj {K : PySem.W.Frag} {H : Hp} {a : Addr} {xs : List V} (h : H a = some (.lst xs)) : SqL K H a xs := sq_of h
theorem jk_list {a : Addr} {vs : List V} {Src H0 : Hp} (h : Src a = some (.lst vs)) (r : Rps K H0 ds vs) : Jk K (Itl K a) Src H0 ds where
  go := fun i H e hi => by
    have hl := r.length
    exact ⟨vs, vs[i]'(by omega), sq_of (e _ _ h), List.getElem?_eq_getElem _⟩
  stop := fun i H e hi => ⟨vs, sq_of (e _ _ h), by rw [← r.length]; exact hi⟩
  yld := fun i H x H' d e hd ⟨e1, k⟩ => by
    obtain ⟨v, hv, rv⟩ := r.get hd
    have := k vs (sq_of (e _ _ h))
    rw [hv] at this
    cases this
    exact .inl ⟨e1, rv⟩
theorem jk_tup {a : Addr} {vs : List V} {Src H0 : Hp} (h : Src a = some (.tup vs)) (r : Rps K H0 ds vs) : Jk K (Itt K a) Src H0 ds where
  go := fun i H e hi => by
    have hl := r.length
    exact ⟨vs, vs[i]'(by omega), st_of (e _ _ h), List.getElem?_eq_getElem _⟩
  stop := fun i H e hi => ⟨vs, st_of (e _ _ h), by rw [← r.length]; exact hi⟩
  yld := fun i H x H' d e hd ⟨e1, k⟩ => by
    obtain ⟨v, hv, rv⟩ := r.get hd
    have := k vs (st_of (e _ _ h))
    rw [hv] at this
    cases this
    exact .inl ⟨e1, rv⟩
theorem wkb_lst (h : EvB K tl S (.lst ds)) : WkB K (iSq K tl) S ds := fun Pn pl G H0 H σ Rr R q => .inl (h Pn pl G H0 H σ Rr _ fun v H0' H' g e R' p => by
  obtain ⟨a, vs, rfl, h1, h2⟩ := p.lst R'.e0
  exact ⟨a, rfl, ⟨vs, sq_of h1⟩, q _ H0' H' g e R' (jk_list h1 h2)⟩)
theorem wkp_lst (h : EvP K tl S (.lst ds)) : WkP K (iSq K tl) S ds := fun Pn pl G H0 H σ Rr R q => .inl (h Pn pl G H0 H σ Rr _ fun v H0' H' g e R' p => by
  obtain ⟨a, vs, rfl, h1, h2⟩ := (show ∃ a vs, v = V.ref a ∧ H0' a = some (.lst vs) ∧ Rps K H0' ds vs by unfold Rp at p; exact p)
  exact ⟨a, rfl, ⟨vs, sq_of (R'.e0 _ _ h1)⟩, q _ H0' H' g e R' (jk_list h1 h2)⟩)
theorem wkp_tup (h : EvP K tl S (.tup ds)) : WkP K (iSq K tl) S ds := fun Pn pl G H0 H σ Rr R q => .inr (h Pn pl G H0 H σ Rr _ fun v H0' H' g e R' p => by
  obtain ⟨a, vs, rfl, h1, h2⟩ := (show ∃ a vs, v = V.ref a ∧ H0' a = some (.tup vs) ∧ Rps K H0' ds vs by unfold Rp at p; exact p)
  exact ⟨a, rfl, ⟨vs, st_of (R'.e0 _ _ h1)⟩, q _ H0' H' g e R' (jk_tup h1 h2)⟩)
theorem wkn_lst {R : List D → List M → Prop} (h : EvN K tl S fun d S1 => ∃ ds, d = .lst ds ∧ R ds S1) : WkN K (iSq K tl) S R := fun Pn pl G H0 H σ Rr Q q => .inl (h Pn pl G H0 H σ Rr _ fun d S' v H0' H' ⟨ds, e, r⟩ g R' p => by
  subst e
  obtain ⟨a, vs, rfl, h1, h2⟩ := (show ∃ a vs, v = V.ref a ∧ H0' a = some (.lst vs) ∧ Rps K H0' ds vs by unfold Rp at p; exact p)
  exact ⟨a, rfl, ⟨vs, sq_of (R'.e0 _ _ h1)⟩, q ds S' _ H0' H' r g R' (jk_list h1 h2)⟩)
def rgD (lo : Int) (n : Nat) : List D := (List.range n).map fun i => .int (lo + (i : Nat))
theorem rgD_get {lo : Int} {n i : Nat} {d : D} (h : (rgD lo n)[i]? = some d) : i < n ∧ d = .int (lo + (i : Nat)) := by
  unfold rgD at h
  rw [List.getElem?_map] at h
  cases q : (List.range n)[i]? with
  | none => rw [q] at h; cases h
  | some j =>
    rw [q] at h
    obtain ⟨h1, h2⟩ := List.getElem?_eq_some_iff.mp q
    rw [List.getElem_range] at h2
    rw [List.length_range] at h1
    subst h2
    cases h
    exact ⟨h1, rfl⟩
theorem jk_rng {lo : Int} {n : Nat} {Src H0 : Hp} : Jk K (Itr lo n) Src H0 (rgD lo n) where
  go := fun i H e hi => by show i < n; simpa [rgD] using hi
  stop := fun i H e hi => by show n ≤ i; simpa [rgD] using hi
  yld := fun i H x H' d e hd ⟨e1, k⟩ => .inl ⟨e1, by obtain ⟨_, rfl⟩ := rgD_get hd; exact k⟩
theorem wkp_rng1 {n : Nat} (h : EvB K ta S (.int n)) (hn : n ≤ 100000) : WkP K (iRng1 (tCons ta tNil)) S (rgD 0 n) := fun Pn pl G H0 H σ Rr R q => h Pn pl G H0 H σ Rr _ fun v H0' H' g e R' p => by
  refine ⟨(n : Int), by rw [p.int], by omega, by omega, ?_⟩
  exact q _ H0' H' g e R' jk_rng
theorem wkn_rng1 {R : List D → List M → Prop} (h : EvN K ta S fun d S1 => ∃ n : Nat, d = .int n ∧ n ≤ 100000 ∧ R (rgD 0 n) S1) : WkN K (iRng1 (tCons ta tNil)) S R := fun Pn pl G H0 H σ Rr Q q => h Pn pl G H0 H σ Rr _ fun d S' v H0' H' ⟨n, e, hn, r⟩ g R' p => by
  subst e
  have p' : v = .int n := p
  refine ⟨(n : Int), by rw [p'], by omega, by omega, ?_⟩
  exact q _ S' _ H0' H' r g R' jk_rng
theorem wkp_rng2 {lo hi : Int} (h1 : EvB K ta S (.int lo)) (h2 : EvB K tb S (.int hi)) (hb : -100000 ≤ lo ∧ lo ≤ 100000 ∧ -100000 ≤ hi ∧ hi ≤ 100000) : WkP K (iRng2 (tCons ta (tCons tb tNil))) S (rgD lo (hi - lo).toNat) := fun Pn pl G H0 H σ Rr R q =>
  h1 Pn pl G H0 H σ Rr _ fun v H01 H1 g1 e1 R1 p1 => h2 Pn pl G H01 H1 σ R1 _ fun w H02 H2 g2 e2 R2 p2 => by
    refine ⟨lo, hi, by rw [p1.int, p2.int], by omega, ?_⟩
    exact q _ H02 H2 (g1.trans g2) (e1.trans e2) R2 jk_rng
def enD (ds : List D) : List D := ds.mapIdx fun i d => .tup [.int (i : Nat), d]
theorem jk_enum {a : Addr} {vs : List V} {Src H0 : Hp} (h : Src a = some (.lst vs)) (r : Rps K H0 ds vs) : Jk K (Ite K a) Src H0 (enD ds) where
  go := fun i H e hi => by
    have hl := r.length
    have hi' : i < ds.length := by simpa [enD] using hi
    exact ⟨vs, vs[i]'(by omega), sq_of (e _ _ h), List.getElem?_eq_getElem _⟩
  stop := fun i H e hi => ⟨vs, sq_of (e _ _ h), by rw [← r.length]; simpa [enD] using hi⟩
  yld := fun i H x H' d e hd ⟨T, w, e1, hT, e2, k⟩ => by
    unfold enD at hd
    rw [List.getElem?_mapIdx] at hd
    cases q : ds[i]? with
    | none => rw [q] at hd; cases hd
    | some y =>
      rw [q] at hd
      cases hd
      obtain ⟨v, hv, rv⟩ := r.get q
      have := k vs (sq_of (e _ _ h))
      rw [hv] at this
      cases this
      exact .inr ⟨T, _, _, hT, e2, e1, rfl, _, _, rfl, rfl, _, _, rfl, rv, rfl⟩
theorem wkb_enum (h : EvB K tl S (.lst ds)) : WkB K (iEnum K (tCons tl tNil)) S (enD ds) := fun Pn pl G H0 H σ Rr R q => h Pn pl G H0 H σ Rr _ fun v H0' H' g e R' p => by
  obtain ⟨a, vs, rfl, h1, h2⟩ := p.lst R'.e0
  exact ⟨a, vs, rfl, sq_of h1, q _ H0' H' g e R' (jk_enum h1 h2)⟩
theorem wkp_enum (h : EvP K tl S (.lst ds)) : WkP K (iEnum K (tCons tl tNil)) S (enD ds) := fun Pn pl G H0 H σ Rr R q => h Pn pl G H0 H σ Rr _ fun v H0' H' g e R' p => by
  obtain ⟨a, vs, rfl, h1, h2⟩ := (show ∃ a vs, v = V.ref a ∧ H0' a = some (.lst vs) ∧ Rps K H0' ds vs by unfold Rp at p; exact p)
  exact ⟨a, vs, rfl, sq_of (R'.e0 _ _ h1), q _ H0' H' g e R' (jk_enum h1 h2)⟩
end

/-! ### targets -/
/-- the target g gives its names (at vs) what x is worth -/
structure GtP (K : PySem.W.Frag) (g : TG) (vs : List Nat) (S : List M) (x : D) (S2 : List M) : Prop where
  out : ∀ i, i ∉ vs → S2[i]? = S[i]?
  len : S2.length = S.length
  run : ∀ Pn pl G H0 H σ v, (∀ i ∈ vs, i ∉ Pn) → Rs K Pn pl G H0 H σ S → Rp K H0 x v → ∀ Q : L2.St → Hp → Prop,
    (∀ σ2, Rs K Pn pl G H0 H σ2 S2 → (∀ i, i ∉ vs → σ2[i]? = σ[i]?) → Q σ2 H) → g v σ H Q
structure GtsP (K : PySem.W.Frag) (g : TGs) (vs : List Nat) (S : List M) (xs : List D) (S2 : List M) : Prop where
  out : ∀ i, i ∉ vs → S2[i]? = S[i]?
  len : S2.length = S.length
  run : ∀ Pn pl G H0 H σ ws, (∀ i ∈ vs, i ∉ Pn) → Rs K Pn pl G H0 H σ S → Rps K H0 xs ws → ∀ Q : L2.St → Hp → Prop,
    (∀ σ2, Rs K Pn pl G H0 H σ2 S2 → (∀ i, i ∉ vs → σ2[i]? = σ[i]?) → Q σ2 H) → g ws σ H Q
section
variable {K : PySem.W.Frag} {S S1 S2 : List M} {x : D} {xs : List D} {g : TG} {gs : TGs} {vs us : List Nat} {Pn : List Nat} {P : Post} {te : TE} {tb : TS} {tt : TT} {wi : TI}
theorem gt_name {j : Nat} : GtP K (gName j) [j] S x (S.set j (.d x)) := ⟨fun i hi => List.getElem?_set_ne fun e => hi (by simp [e]), List.length_set, fun Pn pl G H0 H σ v hv R p Q q =>
  q _ (R.setd p (hv j (by simp))) fun i hi => List.getElem?_set_ne fun e => hi (by simp [e])⟩
theorem gts_nil : GtsP K gNil [] S [] S := ⟨fun _ _ => rfl, rfl, fun Pn pl G H0 H σ ws hv R p Q q => ⟨by unfold Rps at p; exact p, q σ R fun _ _ => rfl⟩⟩
theorem gts_cons (h : GtP K g us S x S1) (k : GtsP K gs vs S1 xs S2) : GtsP K (gCons g gs) (us ++ vs) S (x :: xs) S2 :=
  ⟨fun i hi => by rw [k.out i fun z => hi (List.mem_append_right _ z), h.out i fun z => hi (List.mem_append_left _ z)], by rw [k.len, h.len], fun Pn pl G H0 H σ ws hv R p Q q => by
    obtain ⟨v, r, rfl, h1, h2⟩ := (show ∃ v r, ws = v :: r ∧ Rp K H0 x v ∧ Rps K H0 xs r by unfold Rps at p; exact p)
    refine ⟨v, r, rfl, h.run Pn pl G H0 H σ v (fun i hi => hv i (List.mem_append_left _ hi)) R h1 _ fun σ1 R1 k1 => k.run Pn pl G H0 H σ1 r (fun i hi => hv i (List.mem_append_right _ hi)) R1 h2 _ fun σ2 R2 k2 => q σ2 R2 fun i hi => ?_⟩
    rw [k2 i fun z => hi (List.mem_append_right _ z), k1 i fun z => hi (List.mem_append_left _ z)]⟩
theorem gt_tup {n : Nat} (h : GtsP K gs vs S xs S2) (hn : xs.length = n) : GtP K (gTup K n gs) vs S (.tup xs) S2 := ⟨h.out, h.len, fun Pn pl G H0 H σ v hv R p Q q => by
  obtain ⟨a, ws, rfl, h1, h2⟩ := (show ∃ a ws, v = V.ref a ∧ H0 a = some (.tup ws) ∧ Rps K H0 xs ws by unfold Rp at p; exact p)
  exact ⟨a, ws, rfl, st_of (R.e0 _ _ h1), by rw [← h2.length]; exact hn, h.run Pn pl G H0 H σ ws hv R h2 Q q⟩⟩
theorem gt_pair {i j : Nat} {y : D} : GtP K (gTup K 2 (gCons (gName i) (gCons (gName j) gNil))) [i, j] S (.tup [x, y]) ((S.set i (.d x)).set j (.d y)) := gt_tup (vs := [i, j]) (gts_cons (us := [i]) (vs := [j]) gt_name (gts_cons (us := [j]) (vs := []) gt_name gts_nil)) rfl
theorem gt_tri {i j k : Nat} {y z : D} : GtP K (gTup K 3 (gCons (gName i) (gCons (gName j) (gCons (gName k) gNil)))) [i, j, k] S (.tup [x, y, z]) (((S.set i (.d x)).set j (.d y)).set k (.d z)) :=
  gt_tup (vs := [i, j, k]) (gts_cons (us := [i]) (vs := [j, k]) gt_name (gts_cons (us := [j]) (vs := [k]) gt_name (gts_cons (us := [k]) (vs := []) gt_name gts_nil))) rfl
/-- an assignment to any target -/
theorem st_asg (hv : ∀ i ∈ vs, i ∉ Pn) (h : EvN K te S fun d S1 => ∃ S2, GtP K g vs S1 d S2 ∧ P.nx S2) : StN K Pn (tAsg te g) S P := fun pl G H0 H σ R E a b c e =>
  h Pn pl G H0 H σ R _ fun d S1 v H0' H' ⟨S2, hg, hn⟩ gr R1 p => hg.run Pn pl G H0' H' σ v hv R1 p _ fun σ2 R2 _ => a _ _ H0' H' hn gr R2
/-! ### for -/
theorem st_forN (I : List D → Nat → List M → Prop) (wk : WkN K wi S fun ds S1 => I ds 0 S1) (hv : ∀ i ∈ vs, i ∉ Pn)
    (ht : ∀ ds i d S', ds[i]? = some d → I ds i S' → ∃ S2, GtP K g vs S' d S2 ∧ StN K Pn tb S2 ⟨I ds (i + 1), P.rt, P.nx, I ds (i + 1)⟩) (hd : ∀ (ds : List D) S', I ds ds.length S' → P.nx S') : StN K Pn (tFor wi g tb) S P := fun pl G H0 H σ R E a b c e =>
  wk Pn pl G H0 H σ R _ fun ds S1 J H01 H1 hI g1 R1 jk => by
    refine ⟨fun i m σ' H' => m = ds.length - i ∧ i ≤ ds.length ∧ ∃ S' H0', I ds i S' ∧ Gr G H01 H0' ∧ Rs K Pn pl G H0' H' σ' S', ⟨ds.length, by simp, Nat.zero_le _, S1, H01, hI, Gr.refl _ _, R1⟩, ?_⟩
    rintro i m σ' H' ⟨rfl, hi, S', H0', hI', g', R'⟩
    have src : Ex H01 H' := g'.ex.trans R'.e0
    by_cases hlt : i < ds.length
    · refine .inr ⟨jk.go i H' src hlt, fun σ2 H2 => ∃ S2 H02, I ds (i + 1) S2 ∧ Gr G H01 H02 ∧ Rs K Pn pl G H02 H2 σ2 S2, fun σ2 H2 ⟨S2, H02, k1, k2, k3⟩ => ⟨ds.length - (i + 1), by omega, rfl, hlt, S2, H02, k1, k2, k3⟩, fun x H2 y => ?_⟩
      have hd' : ds[i]? = some ds[i] := List.getElem?_eq_getElem hlt
      obtain ⟨S2, hg, hb⟩ := ht ds i _ S' hd' hI'
      have fin : ∀ (H02 H2 : Hp), Gr G H0' H02 → Rs K Pn pl G H02 H2 σ' S' → Rp K H02 ds[i] x → g x σ' H2 fun σ2 H2 => tb { E with nx := fun σ2 H2 => ∃ S2 H02, I ds (i + 1) S2 ∧ Gr G H01 H02 ∧ Rs K Pn pl G H02 H2 σ2 S2, ct := fun σ2 H2 => ∃ S2 H02, I ds (i + 1) S2 ∧ Gr G H01 H02 ∧ Rs K Pn pl G H02 H2 σ2 S2, bk := E.nx } σ2 H2 :=
        fun H02 H2 g2 R2 p => hg.run Pn pl G H02 H2 σ' x hv R2 p _ fun σ3 R3 _ => hb pl G H02 H2 σ3 R3 _ (fun S4 σ4 H04 H4 k1 k2 k3 => ⟨S4, H04, k1, (g'.trans g2).trans k2, k3⟩)
          (fun d S4 σ4 v H04 H4 k1 k2 k3 k4 => b d S4 σ4 v H04 H4 k1 (((g1.trans g').trans g2).trans k2) k3 k4) (fun S4 σ4 H04 H4 k1 k2 k3 => a S4 σ4 H04 H4 k1 (((g1.trans g').trans g2).trans k2) k3) (fun S4 σ4 H04 H4 k1 k2 k3 => ⟨S4, H04, k1, (g'.trans g2).trans k2, k3⟩)
      rcases jk.yld i H' x H2 _ src hd' y with ⟨e1, rp⟩ | ⟨T, es, ws, hT, e1, e2, e3, rp⟩
      · subst e1
        exact fin H0' H2 (Gr.refl _ _) R' (Rp.mono g'.ex _ _ rp)
      · subst e1
        subst e2
        obtain ⟨g2, e4, R2⟩ := R'.lay (o := .tup ws) hT
        refine fin _ _ g2 R2 ?_
        rw [e3]
        exact ⟨T, ws, rfl, upd_same, Rps.mono (g'.ex.trans g2.ex) _ _ rp⟩
    · have ei : i = ds.length := by omega
      subst ei
      exact .inl ⟨jk.stop _ H' src (Nat.le_refl _), a S' σ' H0' H' (hd ds S' hI') (g1.trans g') R'⟩
theorem st_for (I : Nat → List M → Prop) {ds : List D} (wk : WkP K wi S ds) (hv : ∀ i ∈ vs, i ∉ Pn) (h0 : I 0 S)
    (ht : ∀ i d S', ds[i]? = some d → I i S' → ∃ S2, GtP K g vs S' d S2 ∧ StN K Pn tb S2 ⟨I (i + 1), P.rt, P.nx, I (i + 1)⟩) (hd : ∀ S', I ds.length S' → P.nx S') : StN K Pn (tFor wi g tb) S P :=
  st_forN (fun es i S' => es = ds ∧ I i S') (wk.n ⟨rfl, h0⟩) hv (fun es i d S' hq ⟨e, hI⟩ => by
    rw [e] at hq
    obtain ⟨S2, k1, k2⟩ := ht i d S' hq hI
    exact ⟨S2, k1, k2.weak (fun _ h => ⟨e, h⟩) (fun _ _ h => h) (fun _ h => h) fun _ h => ⟨e, h⟩⟩) fun es S' ⟨e, hI⟩ => by subst e; exact hd S' hI
/-- over the items of a type, by the part taken -/
theorem st_forT {α : Type} (I : List α → List M → Prop) {xs : List α} {f : α → D} (wk : WkP K wi S (xs.map f)) (hv : ∀ i ∈ vs, i ∉ Pn) (h0 : I [] S)
    (ht : ∀ pre a post S', xs = pre ++ a :: post → I pre S' → ∃ S2, GtP K g vs S' (f a) S2 ∧ StN K Pn tb S2 ⟨I (pre ++ [a]), P.rt, P.nx, I (pre ++ [a])⟩) (hd : ∀ S', I xs S' → P.nx S') : StN K Pn (tFor wi g tb) S P := by
  refine st_for (fun i S' => I (xs.take i) S') wk hv h0 (fun i d S' hd' hI => ?_) fun S' hI => hd S' (by rw [List.length_map, List.take_length] at hI; exact hI)
  rw [List.getElem?_map] at hd'
  cases q : xs[i]? with
  | none => rw [q] at hd'; cases hd'
  | some a =>
    rw [q] at hd'
    cases hd'
    obtain ⟨hl, ha⟩ := List.getElem?_eq_some_iff.mp q
    have e1 : xs = xs.take i ++ a :: xs.drop (i + 1) := by
      have e := (List.take_append_drop i xs).symm
      rw [List.drop_eq_getElem_cons hl, ha] at e
      exact e
    obtain ⟨S2, k1, k2⟩ := ht (xs.take i) a (xs.drop (i + 1)) S' e1 hI
    have e2 : xs.take i ++ [a] = xs.take (i + 1) := by rw [List.take_add_one, q]; rfl
    rw [e2] at k2
    exact ⟨S2, k1, k2⟩
/-! ### while -/
theorem st_while (W : Nat → List M → Prop) {m0 : Nat} (h0 : W m0 S) (ht : ∀ m S', W m S' → TpN K tt S' fun b S1 => (b = true → StN K Pn tb S1 ⟨fun S2 => ∃ m', m' < m ∧ W m' S2, P.rt, P.nx, fun S2 => ∃ m', m' < m ∧ W m' S2⟩) ∧ (b = false → P.nx S1)) : StN K Pn (tWhile tt tb) S P :=
  fun pl G H0 H σ R E a b c e => by
    refine ⟨fun m σ' H' => ∃ S' H0', W m S' ∧ Gr G H0 H0' ∧ Rs K Pn pl G H0' H' σ' S', ⟨m0, S, H0, h0, Gr.refl _ _, R⟩, ?_⟩
    rintro m σ' H' ⟨S', H0', hW, g', R'⟩
    refine ht m S' hW Pn pl G H0' H' σ' R' _ fun k S1 H01 H1 ⟨k1, k2⟩ g1 R1 => ?_
    cases k with
    | true =>
      rw [if_pos rfl]
      refine ⟨fun σ2 H2 => ∃ m', m' < m ∧ ∃ S2 H02, W m' S2 ∧ Gr G H0 H02 ∧ Rs K Pn pl G H02 H2 σ2 S2, fun σ2 H2 ⟨m', hm, S2, H02, z⟩ => ⟨m', hm, S2, H02, z⟩, k1 rfl pl G H01 H1 σ' R1 _ ?_ ?_ ?_ ?_⟩
      · exact fun S2 σ2 H02 H2 ⟨m', hm, hw⟩ g2 R2 => ⟨m', hm, S2, H02, hw, (g'.trans g1).trans g2, R2⟩
      · exact fun d S2 σ2 v H02 H2 p g2 R2 q => b d S2 σ2 v H02 H2 p ((g'.trans g1).trans g2) R2 q
      · exact fun S2 σ2 H02 H2 p g2 R2 => a S2 σ2 H02 H2 p ((g'.trans g1).trans g2) R2
      · exact fun S2 σ2 H02 H2 ⟨m', hm, hw⟩ g2 R2 => ⟨m', hm, S2, H02, hw, (g'.trans g1).trans g2, R2⟩
    | false =>
      rw [if_neg Bool.false_ne_true]
      exact a S1 σ' H01 H1 (k2 rfl) (g'.trans g1) R1
end
end Dl
/-! Comprehensions over slots. -/
namespace Dl
open PySem L2 Evl

def wipeM (S : List M) : List Nat → List M
  | [] => S
  | v :: vs => (wipeM S vs).set v .no
def M.ro : M → M
  | .o x => .b x
  | .e _ => .no
  | m => m
section
variable {K : PySem.W.Frag} {Pn : List Nat} {pl : Nat → V} {G H0 H H1 H2 : Hp} {σ : L2.St} {S : List M} {vs : List Nat}
theorem wipeM_len : ∀ vs : List Nat, (wipeM S vs).length = S.length
  | [] => rfl
  | v :: vs => by unfold wipeM; rw [List.length_set, wipeM_len vs]
theorem wipeM_out {i : Nat} : ∀ {vs : List Nat}, i ∉ vs → (wipeM S vs)[i]? = S[i]?
  | [], _ => rfl
  | v :: vs, h => by
    unfold wipeM
    rw [List.getElem?_set_ne fun e => h (by simp [e]), wipeM_out fun z => h (List.mem_cons_of_mem _ z)]
theorem wipeM_in {i : Nat} {m : M} : ∀ {vs : List Nat}, i ∈ vs → (wipeM S vs)[i]? = some m → m = .no
  | v :: vs, h, e => by
    unfold wipeM at e
    by_cases q : v = i
    · subst q
      have hl := (List.getElem?_eq_some_iff.mp e).1
      rw [List.length_set] at hl
      rw [List.getElem?_set_self hl] at e
      cases e; rfl
    · rw [List.getElem?_set_ne q] at e
      exact wipeM_in ((List.mem_cons.mp h).resolve_left fun z => q z.symm) e
theorem wipe_ext {a b : L2.St} : ∀ (vs : List Nat), a.length = b.length → (∀ i, i ∉ vs → a[i]? = b[i]?) → wipe a vs = wipe b vs := fun vs hl h => by
  apply List.ext_getElem?
  intro i
  by_cases q : i ∈ vs
  · have key : ∀ (c : L2.St) (us : List Nat), i ∈ us → (wipe c us)[i]? = if i < c.length then some none else none := fun c us => by
      induction us with
      | nil => intro h; cases h
      | cons u us ih =>
        intro h
        unfold wipe
        by_cases z : u = i
        · subst z
          by_cases hi : u < c.length
          · rw [List.getElem?_set_self (by rw [wipe_length]; exact hi), if_pos hi]
          · rw [if_neg hi]
            exact List.getElem?_eq_none_iff.mpr (by rw [List.length_set, wipe_length]; omega)
        · rw [List.getElem?_set_ne z]
          exact ih ((List.mem_cons.mp h).resolve_left fun w => z w.symm)
    rw [key a vs q, key b vs q, hl]
  · rw [wipe_out q, wipe_out q, h i q]
/-- slots forgotten -/
theorem Rs.wiped (R : Rs K Pn pl G H0 H σ S) : ∀ vs : List Nat, (∀ i ∈ vs, i ∉ Pn) → Rs K Pn pl G H0 H (wipe σ vs) (wipeM S vs)
  | [], _ => R
  | v :: vs, h => (Rs.wiped R vs fun i hi => h i (List.mem_cons_of_mem _ hi)).setn (h v (by simp))
theorem Rs.nopin (R : Rs K Pn pl G H0 H σ S) : Rs K [] pl G H0 H σ S := ⟨R.len, R.e0, R.eg, R.sl, R.ap, fun i hi => by cases hi⟩
/-- all of the heap is kept: own objects are read only -/
theorem Rs.ro (R : Rs K [] pl G H0 H σ S) : Rs K [] pl H H0 H σ (S.map M.ro) where
  len := by rw [List.length_map]; exact R.len
  e0 := R.e0
  eg := Ex.refl _
  sl := fun i m h => by
    rw [List.getElem?_map] at h
    cases q : S[i]? with
    | none => rw [q] at h; cases h
    | some n =>
      rw [q] at h
      cases h
      obtain ⟨ov, h1, h2⟩ := R.sl i n q
      refine ⟨ov, h1, ?_⟩
      cases n with
      | no => trivial
      | e φ => trivial
      | d x => exact h2
      | b x => obtain ⟨l, k1, k2⟩ := h2; exact ⟨l, k1, k2.mono R.eg⟩
      | q ns => obtain ⟨l, k1, k2⟩ := h2; exact ⟨l, k1, ex_l R.eg k2⟩
      | o x => obtain ⟨l, k1, _, _, k2⟩ := h2; exact ⟨l, k1, k2⟩
  ap := fun i j a b ha hb hma => by
    rw [List.getElem?_map] at ha
    cases q : S[i]? with
    | none => rw [q] at ha; cases ha
    | some n =>
      rw [q] at ha
      cases ha
      cases n <;> cases hma
  pin := fun i hi => by cases hi
theorem ro_noown {i : Nat} {m : M} (h : (S.map M.ro)[i]? = some m) : m.own = false := by
  rw [List.getElem?_map] at h
  cases q : S[i]? with
  | none => rw [q] at h; cases h
  | some n => rw [q] at h; cases h; cases n <;> rfl
/-- the heap has gone on -/
theorem Rs.fwd (R : Rs K Pn pl G H0 H σ S) (ex : Ex H0 H1) (e : Ex H H2) (e0 : Ex H1 H2) (hn : ∀ (i : Nat) (m : M) (l : Addr), S[i]? = some m → m.own = true → σ[i]? = some (some (.ref l)) → H0 l = none → H l ≠ none → H1 l = none) : Rs K Pn pl G H1 H2 σ S where
  len := R.len
  e0 := e0
  eg := R.eg.trans e
  sl := fun i m h => by
    obtain ⟨ov, h1, h2⟩ := R.sl i m h
    refine ⟨ov, h1, ?_⟩
    cases m with
    | no => trivial
    | d x => obtain ⟨v, k1, k2⟩ := h2; exact ⟨v, k1, Rp.mono ex _ _ k2⟩
    | b x => obtain ⟨l, k1, k2⟩ := h2; exact ⟨l, k1, k2.mono0 ex⟩
    | q ns => exact h2
    | o x => obtain ⟨l, k1, k2, k3, k4⟩ := h2; exact ⟨l, k1, hn i _ l h rfl (by rw [h1, k1]) k2 k4.some, k3, (k4.mono0 ex).mono e⟩
    | e φ => obtain ⟨l, x, kx, k1, k2, k3, k4⟩ := h2; exact ⟨l, x, kx, k1, hn i _ l h rfl (by rw [h1, k1]) k2 k4.some, k3, (k4.mono0 ex).mono e⟩
  ap := R.ap
  pin := R.pin
theorem Rs.addG (R : Rs K Pn pl G H0 H σ S) {p : Addr} {o : HO} (hg : G p = none) (hp : H p = some o) (hs : ∀ (i : Nat) (m : M), S[i]? = some m → m.own = true → σ[i]? ≠ some (some (V.ref p))) : Rs K Pn pl (upd G p o) H0 H σ S where
  len := R.len
  e0 := R.e0
  eg := fun a u e => by
    by_cases q : a = p
    · rw [q, upd_same] at e; cases e; rw [q]; exact hp
    · rw [upd_ne q] at e; exact R.eg a u e
  sl := fun i m h => by
    obtain ⟨ov, h1, h2⟩ := R.sl i m h
    refine ⟨ov, h1, ?_⟩
    cases m with
    | no => trivial
    | d x => exact h2
    | b x => obtain ⟨l, k1, k2⟩ := h2; exact ⟨l, k1, k2.mono (Ex.new hg)⟩
    | q ns => obtain ⟨l, k1, k2⟩ := h2; exact ⟨l, k1, ex_l (Ex.new hg) k2⟩
    | o x => obtain ⟨l, k1, k2, k3, k4⟩ := h2; exact ⟨l, k1, k2, by rw [upd_ne fun z => hs i _ h rfl (by rw [h1, k1, z])]; exact k3, k4⟩
    | e φ => obtain ⟨l, x, kx, k1, k2, k3, k4⟩ := h2; exact ⟨l, x, kx, k1, k2, by rw [upd_ne fun z => hs i _ h rfl (by rw [h1, k1, z])]; exact k3, k4⟩
  ap := R.ap
  pin := R.pin
theorem Gr.sub {G' A B : Hp} (g : Gr G A B) (h : ∀ a, G' a ≠ none → G a ≠ none) : Gr G' A B := ⟨g.ex, fun a k => g.new a (h a k)⟩
theorem Gr.out {A B : Hp} {p : Addr} (g : Gr G A B) (hg : G p ≠ none) (ha : A p = none) : B p = none := by
  cases q : B p with
  | none => rfl
  | some o => exact absurd ha (g.new p hg (by rw [q]; exact fun z => nomatch z))

/-- a comprehension that changes nothing: a new list -/
theorem evf_lc {α : Type} {xs : List α} {f r : α → D} {p : α → Bool} {wi : TI} {g : TG} {tt : TT} {te : TE} (wk : WkB K wi S (xs.map f)) (hl : xs.length ≤ 50000)
    (ht : ∀ a, a ∈ xs → ∃ S2, GtP K g vs ((wipeM S vs).map M.ro) (f a) S2 ∧ TpP K tt S2 (p a) ∧ (p a = true → EvP K te S2 (r a))) : EvF K (tLc wi g tt te vs) S (.lst ((xs.filter p).map r)) := fun Pn pl G H0 H σ Rr Q q =>
  wk Pn pl G H0 H σ Rr _ fun J H01 H1 g1 e1 R1 jk D hD => by
    obtain ⟨d0, dg, dap⟩ := R1.own_new hD
    have Ri : Rs K [] pl H1 H01 H1 (wipe σ vs) ((wipeM S vs).map M.ro) := (R1.nopin.wiped vs fun i _ => by simp).ro
    have none_own : ∀ (i : Nat) (m : M) (l : Addr) {τ : L2.St} {A B C : Hp}, ((wipeM S vs).map M.ro)[i]? = some m → m.own = true → τ[i]? = some (some (V.ref l)) → A l = none → B l ≠ none → C l = none := fun i m l τ A B C h ho => by rw [ro_noown h] at ho; cases ho
    refine ⟨fun i m H' => m = xs.length - i ∧ i ≤ xs.length ∧ ∃ ws H0', H' D = some (.lst ws) ∧ Rps K H0' (((xs.take i).filter p).map r) ws ∧ H0' D = none ∧ Gr H1 H01 H0' ∧ Rs K [] pl H1 H0' H' (wipe σ vs) ((wipeM S vs).map M.ro),
      ⟨xs.length, by simp, Nat.zero_le _, [], H01, upd_same, by rw [List.take_zero]; rfl, d0, Gr.refl _ _, Ri.fwd (Ex.refl _) (Ex.new hD) (Ri.e0.trans (Ex.new hD)) fun i m l h ho z k k2 => none_own i m l h ho z k k2⟩, ?_⟩
    rintro i m H' ⟨rfl, hi, ws, H0', hw, hr, hd0, g', R'⟩
    have src : Ex H1 H' := R'.eg
    by_cases hlt : i < xs.length
    · have hlt' : i < (xs.map f).length := by rw [List.length_map]; exact hlt
      have hda : (xs.map f)[i]? = some (f xs[i]) := by rw [List.getElem?_map, List.getElem?_eq_getElem hlt]; rfl
      have htk : xs.take (i + 1) = xs.take i ++ [xs[i]] := by rw [List.take_add_one, List.getElem?_eq_getElem hlt]; rfl
      refine .inr ⟨jk.go i H' src hlt', fun H2 => ∃ ws H0', H2 D = some (.lst ws) ∧ Rps K H0' (((xs.take (i + 1)).filter p).map r) ws ∧ H0' D = none ∧ Gr H1 H01 H0' ∧ Rs K [] pl H1 H0' H2 (wipe σ vs) ((wipeM S vs).map M.ro),
        fun H2 k => ⟨xs.length - (i + 1), by omega, rfl, hlt, k⟩, fun x H2 y => ?_⟩
      obtain ⟨S2, hg, htt, hte⟩ := ht xs[i] (List.getElem_mem hlt)
      have fin : ∀ (H02 H2 : Hp), Gr H1 H01 H02 → Gr H1 H0' H02 → H02 D = none → H2 D = some (.lst ws) → Rs K [] pl H1 H02 H2 (wipe σ vs) ((wipeM S vs).map M.ro) → Rp K H02 (f xs[i]) x → g x (wipe σ vs) H2 fun σ2 H2 => wipe σ2 vs = wipe σ vs ∧ tt σ2 H2 fun b H3 =>
          if b = true then te σ2 H3 fun y H4 => ∃ acc, H4 D = some (.lst acc) ∧ acc.length < sizeLine ∧ ∃ ws H0', upd H4 D (.lst (acc ++ [y])) D = some (.lst ws) ∧ Rps K H0' (((xs.take (i + 1)).filter p).map r) ws ∧ H0' D = none ∧ Gr H1 H01 H0' ∧ Rs K [] pl H1 H0' (upd H4 D (.lst (acc ++ [y]))) (wipe σ vs) ((wipeM S vs).map M.ro)
          else ∃ ws H0', H3 D = some (.lst ws) ∧ Rps K H0' (((xs.take (i + 1)).filter p).map r) ws ∧ H0' D = none ∧ Gr H1 H01 H0' ∧ Rs K [] pl H1 H0' H3 (wipe σ vs) ((wipeM S vs).map M.ro) := fun H02 H2 gA gB hd2 hw2 R2 px => by
        have R2G : Rs K [] pl (upd H1 D (.lst ws)) H02 H2 (wipe σ vs) ((wipeM S vs).map M.ro) := R2.addG hD hw2 fun j m' hj ho => by rw [ro_noown hj] at ho; cases ho
        refine hg.run [] pl _ H02 H2 (wipe σ vs) x (fun _ _ => by simp) R2G px _ fun σ2 R3 hσ => ?_
        have hw3 : wipe σ2 vs = wipe σ vs := by
          have e : wipe σ2 vs = wipe (wipe σ vs) vs := wipe_ext vs (by rw [R3.len, hg.len, List.length_map, wipeM_len, wipe_length, ← R1.len]) hσ
          rw [e]
          exact wipe_ext vs (wipe_length _ _) fun j hj => wipe_out hj
        refine ⟨hw3, htt [] pl _ H02 H2 σ2 R3 _ fun H03 H3 g3 e3 R4 => ?_⟩
        have hD3 : H3 D = some (.lst ws) := R4.eg D _ upd_same
        have hd3 : H03 D = none := g3.out (by rw [upd_same]; exact fun z => nomatch z) hd2
        have g3' : Gr H1 H02 H03 := g3.sub fun a k => by
          by_cases z : a = D
          · rw [z, upd_same]; exact fun z => nomatch z
          · rw [upd_ne z]; exact k
        cases hp : p xs[i] with
        | false =>
          rw [if_neg Bool.false_ne_true]
          refine ⟨ws, H03, hD3, ?_, hd3, gA.trans g3', R2.fwd g3.ex e3 R4.e0 fun j m' l h ho z k k2 => none_own j m' l h ho z k k2⟩
          rw [htk, List.filter_append, List.map_append]
          simp only [List.filter_cons, hp, List.filter_nil, List.map_nil, List.append_nil, Bool.false_eq_true, if_false]
          exact Rps.mono (gB.ex.trans g3.ex) _ _ hr
        | true =>
          rw [if_pos rfl]
          refine hte hp [] pl _ H03 H3 σ2 R4 _ fun y H04 H4 g4 e4 R5 py => ?_
          have hD4 : H4 D = some (.lst ws) := R5.eg D _ upd_same
          have hd4 : H04 D = none := g4.out (by rw [upd_same]; exact fun z => nomatch z) hd3
          have g4' : Gr H1 H03 H04 := g4.sub fun a k => by
            by_cases z : a = D
            · rw [z, upd_same]; exact fun z => nomatch z
            · rw [upd_ne z]; exact k
          have hrl := hr.length
          have hfl := List.length_filter_le p (xs.take i)
          rw [List.length_map] at hrl
          rw [List.length_take] at hfl
          refine ⟨ws, hD4, sz_lt (by omega), ws ++ [y], H04, upd_same, ?_, hd4, (gA.trans g3').trans g4', ?_⟩
          · rw [htk, List.filter_append, List.map_append]
            simp only [List.filter_cons, hp, List.filter_nil, List.map_nil, List.map_cons, if_true]
            exact (Rps.mono ((gB.ex.trans g3.ex).trans g4.ex) _ _ hr).append ⟨y, [], rfl, py, rfl⟩
          · have R6 : Rs K [] pl H1 H04 H4 (wipe σ vs) ((wipeM S vs).map M.ro) := R2.fwd (g3.ex.trans g4.ex) (e3.trans e4) R5.e0 fun j m' l h ho z k k2 => none_own j m' l h ho z k k2
            refine ⟨R6.len, fun a u ha => ?_, fun a u ha => ?_, fun j m' hj => ?_, R6.ap, R6.pin⟩
            · rw [upd_ne (ne_of_none ha hd4)]; exact R6.e0 a u ha
            · rw [upd_ne (ne_of_none ha hD)]; exact R6.eg a u ha
            · obtain ⟨ov, h1, h2⟩ := R6.sl j m' hj
              refine ⟨ov, h1, ?_⟩
              have no := ro_noown hj
              cases m' with
              | no => trivial
              | d x => exact h2
              | b x => exact h2
              | q ns => exact h2
              | o x => cases no
              | e φ => cases no
      rcases jk.yld i H' x H2 _ src hda y with ⟨e2, rp⟩ | ⟨T, es, us, hT, e2, e3, e4, rp⟩
      · subst e2
        exact fin H0' H2 g' (Gr.refl _ _) hd0 hw R' (Rp.mono g'.ex _ _ rp)
      · subst e2
        have nTD : D ≠ T := ne_of_none hw hT
        obtain ⟨gT, eT, RT⟩ := R'.lay (o := .tup us) hT
        refine fin _ _ (g'.trans gT) gT (by rw [upd_ne nTD]; exact hd0) (by rw [upd_ne nTD]; exact hw) RT ?_
        rw [e3, e4]
        exact ⟨T, us, rfl, upd_same, Rps.mono (g'.ex.trans gT.ex) _ _ rp⟩
    · have ei : i = xs.length := by omega
      subst ei
      rw [List.take_length] at hr
      refine .inl ⟨jk.stop _ H' src (by rw [List.length_map]; exact Nat.le_refl _), q D H0' H' (g1.trans (g'.sub fun a k => ?_)) (e1.trans src) (R1.fwd g'.ex src R'.e0 fun j m' l h ho z k k2 => ?_) hd0 dg dap ⟨ws, hw, hr⟩⟩
      · cases z : G a with
        | none => exact absurd z k
        | some o => rw [R1.eg a o z]; exact fun z => nomatch z
      · exact g'.out k2 k

/-- two states of one frame are joined: the own slots of the later one, the others of the first -/
theorem Rs.join {Pn4 : List Nat} {pl4 : Nat → V} {G4 H01 H04 H4 : Hp} {σ4 : L2.St} {S4 : List M} (R1 : Rs K Pn pl G H01 H1 σ S) (R4 : Rs K Pn4 pl4 G4 H04 H4 σ4 S4) (ex : Ex H01 H04) (eg : Ex G H4)
    (hσ : ∀ i, i ∉ vs → σ4[i]? = σ[i]?) (hS : ∀ i, i ∉ vs → S4[i]? = S[i]?) (hG : ∀ l, G4 l = none → G l = none) (hv : ∀ i ∈ vs, ∀ m, S[i]? = some m → m.own = false) : Rs K Pn pl G H04 H4 σ S where
  len := R1.len
  e0 := R4.e0
  eg := eg
  sl := fun i m h => by
    obtain ⟨ov, h1, h2⟩ := R1.sl i m h
    refine ⟨ov, h1, ?_⟩
    cases hm : m.own with
    | false =>
      cases m with
      | no => trivial
      | d x => obtain ⟨v, k1, k2⟩ := h2; exact ⟨v, k1, Rp.mono ex _ _ k2⟩
      | b x => obtain ⟨l, k1, k2⟩ := h2; exact ⟨l, k1, k2.mono0 ex⟩
      | q ns => exact h2
      | o x => cases hm
      | e φ => cases hm
    | true =>
      have hi : i ∉ vs := fun z => by rw [hv i z m h] at hm; cases hm
      obtain ⟨ov', h1', h2'⟩ := R4.sl i m (by rw [hS i hi]; exact h)
      rw [hσ i hi, h1] at h1'
      cases h1'
      cases m with
      | no => cases hm
      | d x => cases hm
      | b x => cases hm
      | q ns => cases hm
      | o x => obtain ⟨l, k1, k2, k3, k4⟩ := h2'; exact ⟨l, k1, k2, hG l k3, k4⟩
      | e φ => obtain ⟨l, x, kx, k1, k2, k3, k4⟩ := h2'; exact ⟨l, x, kx, k1, k2, hG l k3, k4⟩
  ap := R1.ap
  pin := R1.pin
theorem Rs.upd_free (R : Rs K Pn pl G H0 H σ S) {p : Addr} {o : HO} (h0 : H0 p = none) (hg : G p = none) (ap : Apart σ S p) : Rs K Pn pl G H0 (upd H p o) σ S where
  len := R.len
  e0 := fun a u ha => by rw [upd_ne (ne_of_none ha h0)]; exact R.e0 a u ha
  eg := fun a u ha => by rw [upd_ne (ne_of_none ha hg)]; exact R.eg a u ha
  sl := fun i m h => by
    obtain ⟨ov, h1, h2⟩ := R.sl i m h
    refine ⟨ov, h1, ?_⟩
    cases m with
    | no => trivial
    | d x => exact h2
    | b x => exact h2
    | q ns => exact h2
    | o x => obtain ⟨l, k1, k2, k3, k4⟩ := h2; exact ⟨l, k1, k2, k3, k4.at (upd_ne fun z => ap i _ h rfl (by rw [h1, k1, z]))⟩
    | e φ => obtain ⟨l, x, kx, k1, k2, k3, k4⟩ := h2; exact ⟨l, x, kx, k1, k2, k3, k4.at (upd_ne fun z => ap i _ h rfl (by rw [h1, k1, z]))⟩
  ap := R.ap
  pin := R.pin
/-- which items may come of which -/
inductive Sel {α : Type} (Rel : α → Option D → Prop) : List α → List D → Prop
  | nil : Sel Rel [] []
  | skip {xs : List α} {ds : List D} {a : α} : Sel Rel xs ds → Rel a none → Sel Rel (xs ++ [a]) ds
  | take {xs : List α} {ds : List D} {a : α} {d : D} : Sel Rel xs ds → Rel a (some d) → Sel Rel (xs ++ [a]) (ds ++ [d])
theorem Sel.len {α : Type} {Rel : α → Option D → Prop} {xs : List α} {ds : List D} (h : Sel Rel xs ds) : ds.length ≤ xs.length := by
  induction h with
  | nil => exact Nat.le_refl _
  | skip _ _ ih => rw [List.length_append]; omega
  | take _ _ ih => rw [List.length_append, List.length_append, List.length_singleton, List.length_singleton]; omega
/-- a comprehension whose parts may change own objects, of which as much is known behind as ahead: a new list -/
theorem evo_lc {α : Type} {f : α → D} {Rel : α → Option D → Prop} {φ : List α → Prop} {R : D → List M → Prop} {wi : TI} {g : TG} {tt : TT} {te : TE} (hv : ∀ i ∈ vs, ∀ m, S[i]? = some m → m.own = false)
    (wk : WkN K wi S fun ds S1 => S1 = S ∧ ∃ xs : List α, ds = xs.map f ∧ xs.length ≤ 50000 ∧ φ xs)
    (ht : ∀ xs, φ xs → ∀ a, a ∈ xs → ∃ S2, GtP K g vs (wipeM S vs) (f a) S2 ∧ TpN K tt S2 fun b S3 => S3 = S2 ∧ (b = false → Rel a none) ∧ (b = true → EvN K te S2 fun d S4 => S4 = S2 ∧ Rel a (some d)))
    (hd : ∀ xs ds, φ xs → Sel Rel xs ds → R (.lst ds) S) : EvO K (tLc wi g tt te vs) S R := fun Pn pl G H0 H σ Rr Q q =>
  wk Pn pl G H0 H σ Rr _ fun es S' J H01 H1 ⟨eS, xs, exs, hl, hφ⟩ g1 R1 jk D hD => by
    subst eS exs
    obtain ⟨d0, dg, dap⟩ := R1.own_new hD
    have Ri : Rs K [] pl G H01 H1 (wipe σ vs) (wipeM S' vs) := R1.nopin.wiped vs fun i _ => by simp
    have wap : ∀ (i : Nat) (m : M), (wipeM S' vs)[i]? = some m → m.own = true → (wipe σ vs)[i]? ≠ some (some (V.ref D)) := fun i m h ho z => by
      by_cases hi : i ∈ vs
      · rw [wipeM_in hi h] at ho; cases ho
      · rw [wipeM_out hi] at h
        rw [wipe_out hi] at z
        exact dap i m h ho z
    have wno : ∀ i ∈ vs, ∀ m, (wipeM S' vs)[i]? = some m → m.own = false := fun i hi m h => by rw [wipeM_in hi h]; rfl
    refine ⟨fun i m H' => m = xs.length - i ∧ i ≤ xs.length ∧ ∃ ws ds H0', H' D = some (.lst ws) ∧ Rps K H0' ds ws ∧ Sel Rel (xs.take i) ds ∧ H0' D = none ∧ Gr G H01 H0' ∧ Rs K [] pl G H0' H' (wipe σ vs) (wipeM S' vs),
      ⟨xs.length, by simp, Nat.zero_le _, [], [], H01, upd_same, rfl, by rw [List.take_zero]; exact .nil, d0, Gr.refl _ _, Ri.grow (Ex.new hD)⟩, ?_⟩
    rintro i m H' ⟨rfl, hi, ws, ds, H0', hw, hr, hsel, hd0, g', R'⟩
    have src : Ex H01 H' := g'.ex.trans R'.e0
    by_cases hlt : i < xs.length
    · have hlt' : i < (xs.map f).length := by rw [List.length_map]; exact hlt
      have hda : (xs.map f)[i]? = some (f xs[i]) := by rw [List.getElem?_map, List.getElem?_eq_getElem hlt]; rfl
      have htk : xs.take (i + 1) = xs.take i ++ [xs[i]] := by rw [List.take_add_one, List.getElem?_eq_getElem hlt]; rfl
      refine .inr ⟨jk.go i H' src hlt', fun H2 => ∃ ws ds H0', H2 D = some (.lst ws) ∧ Rps K H0' ds ws ∧ Sel Rel (xs.take (i + 1)) ds ∧ H0' D = none ∧ Gr G H01 H0' ∧ Rs K [] pl G H0' H2 (wipe σ vs) (wipeM S' vs),
        fun H2 k => ⟨xs.length - (i + 1), by omega, rfl, hlt, k⟩, fun x H2 y => ?_⟩
      obtain ⟨S2, hg, htt⟩ := ht xs hφ xs[i] (List.getElem_mem hlt)
      have fin : ∀ (H02 H2 : Hp), Gr G H0' H02 → H02 D = none → H2 D = some (.lst ws) → Rs K [] pl G H02 H2 (wipe σ vs) (wipeM S' vs) → Rp K H02 (f xs[i]) x → g x (wipe σ vs) H2 fun σ2 H2 => wipe σ2 vs = wipe σ vs ∧ tt σ2 H2 fun b H3 =>
          if b = true then te σ2 H3 fun y H4 => ∃ acc, H4 D = some (.lst acc) ∧ acc.length < sizeLine ∧ ∃ ws ds H0', upd H4 D (.lst (acc ++ [y])) D = some (.lst ws) ∧ Rps K H0' ds ws ∧ Sel Rel (xs.take (i + 1)) ds ∧ H0' D = none ∧ Gr G H01 H0' ∧ Rs K [] pl G H0' (upd H4 D (.lst (acc ++ [y]))) (wipe σ vs) (wipeM S' vs)
          else ∃ ws ds H0', H3 D = some (.lst ws) ∧ Rps K H0' ds ws ∧ Sel Rel (xs.take (i + 1)) ds ∧ H0' D = none ∧ Gr G H01 H0' ∧ Rs K [] pl G H0' H3 (wipe σ vs) (wipeM S' vs) := fun H02 H2 gB hd2 hw2 R2 px => by
        have R2G : Rs K [] pl (upd G D (.lst ws)) H02 H2 (wipe σ vs) (wipeM S' vs) := R2.addG dg hw2 wap
        have Gne : upd G D (HO.lst ws) D ≠ none := by rw [upd_same]; exact fun z => nomatch z
        have Gsub : ∀ a, G a ≠ none → upd G D (HO.lst ws) a ≠ none := fun a k => by
          by_cases z : a = D
          · rw [z]; exact Gne
          · rw [upd_ne z]; exact k
        have Gback : ∀ l, upd G D (HO.lst ws) l = none → G l = none := fun l k => by
          cases z : G l with
          | none => rfl
          | some o => exact absurd k (Gsub l (by rw [z]; exact fun z => nomatch z))
        refine hg.run [] pl _ H02 H2 (wipe σ vs) x (fun _ _ => by simp) R2G px _ fun σ2 R3 hσ => ?_
        have hw3 : wipe σ2 vs = wipe σ vs := by
          have e : wipe σ2 vs = wipe (wipe σ vs) vs := wipe_ext vs (by rw [R3.len, hg.len, wipeM_len, wipe_length, ← R1.len]) hσ
          rw [e]
          exact wipe_ext vs (wipe_length _ _) fun j hj => wipe_out hj
        refine ⟨hw3, htt [] pl _ H02 H2 σ2 R3 _ fun b S3 H03 H3 ⟨eS, kf, kt⟩ g3 R4 => ?_⟩
        subst eS
        have hD3 : H3 D = some (.lst ws) := R4.eg D _ upd_same
        have hd3 : H03 D = none := g3.out Gne hd2
        have g3' : Gr G H02 H03 := g3.sub Gsub
        cases b with
        | false =>
          rw [if_neg Bool.false_ne_true]
          refine ⟨ws, ds, H03, hD3, Rps.mono (gB.ex.trans g3.ex) _ _ hr, by rw [htk]; exact hsel.skip (kf rfl), hd3, (g'.trans gB).trans g3', ?_⟩
          exact R2.join R4 g3.ex (fun a u ha => R4.eg a u (by rw [upd_ne (ne_of_none ha dg)]; exact ha)) hσ hg.out Gback wno
        | true =>
          rw [if_pos rfl]
          refine kt rfl [] pl _ H03 H3 σ2 R4 _ fun d S4 y H04 H4 ⟨eS, hrel⟩ g4 R5 py => ?_
          subst eS
          have hD4 : H4 D = some (.lst ws) := R5.eg D _ upd_same
          have hd4 : H04 D = none := g4.out Gne hd3
          have g4' : Gr G H03 H04 := g4.sub Gsub
          have hrl := hr.length
          have hsl := hsel.len
          rw [List.length_take] at hsl
          refine ⟨ws, hD4, sz_lt (by omega), ws ++ [y], ds ++ [d], H04, upd_same, (Rps.mono ((gB.ex.trans g3.ex).trans g4.ex) _ _ hr).append ⟨y, [], rfl, py, rfl⟩, by rw [htk]; exact hsel.take hrel, hd4, ((g'.trans gB).trans g3').trans g4', ?_⟩
          have R6 : Rs K [] pl G H04 H4 (wipe σ vs) (wipeM S' vs) := R2.join R5 (g3.ex.trans g4.ex) (fun a u ha => R5.eg a u (by rw [upd_ne (ne_of_none ha dg)]; exact ha)) hσ hg.out Gback wno
          exact R6.upd_free hd4 dg wap
      rcases jk.yld i H' x H2 _ src hda y with ⟨e2, rp⟩ | ⟨T, es, us, hT, e2, e3, e4, rp⟩
      · subst e2
        exact fin H0' H2 (Gr.refl _ _) hd0 hw R' (Rp.mono g'.ex _ _ rp)
      · subst e2
        have nTD : D ≠ T := ne_of_none hw hT
        obtain ⟨gT, eT, RT⟩ := R'.lay (o := .tup us) hT
        refine fin _ _ gT (by rw [upd_ne nTD]; exact hd0) (by rw [upd_ne nTD]; exact hw) RT ?_
        rw [e3, e4]
        exact ⟨T, us, rfl, upd_same, Rps.mono (g'.ex.trans gT.ex) _ _ rp⟩
    · have ei : i = xs.length := by omega
      subst ei
      rw [List.take_length] at hsel
      refine .inl ⟨jk.stop _ H' src (by rw [List.length_map]; exact Nat.le_refl _), q _ S' D H0' H' (hd xs ds hφ hsel) (g1.trans g') ?_ hd0 dg dap ⟨ws, hw, hr⟩⟩
      exact R1.join R' g'.ex R'.eg (fun j hj => wipe_out hj) (fun j hj => wipeM_out hj) (fun l k => k) hv

theorem Rs.fwdN (R : Rs K Pn pl G H0 H σ S) (ex : Ex H0 H1) (eg : Ex G H2) (e0 : Ex H1 H2) (hno : ∀ (i : Nat) (m : M), S[i]? = some m → m.own = false) : Rs K Pn pl G H1 H2 σ S where
  len := R.len
  e0 := e0
  eg := eg
  sl := fun i m h => by
    obtain ⟨ov, h1, h2⟩ := R.sl i m h
    have no := hno i m h
    refine ⟨ov, h1, ?_⟩
    cases m with
    | no => trivial
    | d x => obtain ⟨v, k1, k2⟩ := h2; exact ⟨v, k1, Rp.mono ex _ _ k2⟩
    | b x => obtain ⟨l, k1, k2⟩ := h2; exact ⟨l, k1, k2.mono0 ex⟩
    | q ns => exact h2
    | o x => cases no
    | e φ => cases no
  ap := R.ap
  pin := R.pin
theorem wipeM_noown (h : ∀ (i : Nat) (m : M), S[i]? = some m → m.own = false) (us : List Nat) : ∀ (i : Nat) (m : M), (wipeM S us)[i]? = some m → m.own = false := fun i m e => by
  by_cases q : i ∈ us
  · rw [wipeM_in q e]; rfl
  · rw [wipeM_out q] at e; exact h i m e
/-- a comprehension of two clauses that changes nothing: a new list -/
theorem evf_lc2 {α β : Type} {xs : List α} {f : α → D} {p : α → Bool} {ys : α → List β} {f1 : β → D} {p1 : α → β → Bool} {r : α → β → D} {us : List Nat} {wi wi1 : TI} {g g1 : TG} {tt tt1 : TT} {te : TE} (wk : WkB K wi S (xs.map f))
    (hl : ((xs.filter p).flatMap fun a => ((ys a).filter (p1 a)).map (r a)).length ≤ 50000)
    (ht : ∀ a, a ∈ xs → ∃ S2, GtP K g vs ((wipeM S vs).map M.ro) (f a) S2 ∧ (∀ (i : Nat) (m : M), S2[i]? = some m → m.own = false) ∧ TpP K tt S2 (p a) ∧ (p a = true → WkP K wi1 S2 ((ys a).map f1) ∧
      ∀ b, b ∈ ys a → ∃ S3, GtP K g1 us (wipeM S2 us) (f1 b) S3 ∧ TpP K tt1 S3 (p1 a b) ∧ (p1 a b = true → EvP K te S3 (r a b)))) :
    EvF K (tLc2 wi g tt wi1 g1 tt1 te vs us) S (.lst ((xs.filter p).flatMap fun a => ((ys a).filter (p1 a)).map (r a))) := fun Pn pl G H0 H σ Rr Q q =>
  wk Pn pl G H0 H σ Rr _ fun J H01 H1 g1' e1 R1 jk D hD => by
    obtain ⟨d0, dg, dap⟩ := R1.own_new hD
    have Ri : Rs K [] pl H1 H01 H1 (wipe σ vs) ((wipeM S vs).map M.ro) := (R1.nopin.wiped vs fun i _ => by simp).ro
    have Sno : ∀ (i : Nat) (m : M), ((wipeM S vs).map M.ro)[i]? = some m → m.own = false := fun i m h => ro_noown h
    have Gne : ∀ ws : List V, upd H1 D (HO.lst ws) D ≠ none := fun ws => by rw [upd_same]; exact fun z => nomatch z
    have Gsub : ∀ (ws : List V) (a : Addr), H1 a ≠ none → upd H1 D (HO.lst ws) a ≠ none := fun ws a k => by
      by_cases z : a = D
      · rw [z]; exact Gne ws
      · rw [upd_ne z]; exact k
    refine ⟨fun i m H' => m = xs.length - i ∧ i ≤ xs.length ∧ ∃ ws H0', H' D = some (.lst ws) ∧ Rps K H0' (((xs.take i).filter p).flatMap fun a => ((ys a).filter (p1 a)).map (r a)) ws ∧ H0' D = none ∧ Gr H1 H01 H0' ∧ Rs K [] pl H1 H0' H' (wipe σ vs) ((wipeM S vs).map M.ro),
      ⟨xs.length, by simp, Nat.zero_le _, [], H01, upd_same, by rw [List.take_zero]; rfl, d0, Gr.refl _ _, Ri.fwdN (Ex.refl _) (Ri.eg.trans (Ex.new hD)) (Ri.e0.trans (Ex.new hD)) Sno⟩, ?_⟩
    rintro i m H' ⟨rfl, hi, ws, H0', hw, hr, hd0, g', R'⟩
    have src : Ex H1 H' := R'.eg
    by_cases hlt : i < xs.length
    · have hlt' : i < (xs.map f).length := by rw [List.length_map]; exact hlt
      have hda : (xs.map f)[i]? = some (f xs[i]) := by rw [List.getElem?_map, List.getElem?_eq_getElem hlt]; rfl
      have htk : xs.take (i + 1) = xs.take i ++ [xs[i]] := by rw [List.take_add_one, List.getElem?_eq_getElem hlt]; rfl
      have hdr : xs = xs.take i ++ xs[i] :: xs.drop (i + 1) := by
        have e := (List.take_append_drop i xs).symm
        rw [List.drop_eq_getElem_cons hlt] at e
        exact e
      refine .inr ⟨jk.go i H' src hlt', fun H2 => ∃ ws H0', H2 D = some (.lst ws) ∧ Rps K H0' (((xs.take (i + 1)).filter p).flatMap fun a => ((ys a).filter (p1 a)).map (r a)) ws ∧ H0' D = none ∧ Gr H1 H01 H0' ∧ Rs K [] pl H1 H0' H2 (wipe σ vs) ((wipeM S vs).map M.ro),
        fun H2 k => ⟨xs.length - (i + 1), by omega, rfl, hlt, k⟩, fun x H2 y => ?_⟩
      obtain ⟨S2, hg, no2, htt, hte⟩ := ht xs[i] (List.getElem_mem hlt)
      have fin : ∀ (H02 H2 : Hp), Gr H1 H01 H02 → Gr H1 H0' H02 → H02 D = none → H2 D = some (.lst ws) → Rs K [] pl H1 H02 H2 (wipe σ vs) ((wipeM S vs).map M.ro) → Rp K H02 (f xs[i]) x → g x (wipe σ vs) H2 fun σ2 H2 => wipe σ2 vs = wipe σ vs ∧ tt σ2 H2 fun b H3 =>
          if b = true then wi1 σ2 H3 fun J1 H4 => ∃ W1 : Nat → Nat → Hp → Prop, (∃ m, W1 0 m H4) ∧ ∀ j k H, W1 j k H →
            (J1.stop j H ∧ ∃ ws H0', H D = some (.lst ws) ∧ Rps K H0' (((xs.take (i + 1)).filter p).flatMap fun a => ((ys a).filter (p1 a)).map (r a)) ws ∧ H0' D = none ∧ Gr H1 H01 H0' ∧ Rs K [] pl H1 H0' H (wipe σ vs) ((wipeM S vs).map M.ro)) ∨
            (J1.go j H ∧ ∃ Nx1 : Hp → Prop, (∀ H', Nx1 H' → ∃ k', k' < k ∧ W1 (j + 1) k' H') ∧ ∀ x H', J1.yld j H x H' → g1 x (wipe σ2 us) H' fun σ3 H5 => wipe σ3 us = wipe σ2 us ∧ tt1 σ3 H5 fun b H6 =>
              if b = true then te σ3 H6 fun y H7 => ∃ acc, H7 D = some (.lst acc) ∧ acc.length < sizeLine ∧ Nx1 (upd H7 D (.lst (acc ++ [y]))) else Nx1 H6)
          else ∃ ws H0', H3 D = some (.lst ws) ∧ Rps K H0' (((xs.take (i + 1)).filter p).flatMap fun a => ((ys a).filter (p1 a)).map (r a)) ws ∧ H0' D = none ∧ Gr H1 H01 H0' ∧ Rs K [] pl H1 H0' H3 (wipe σ vs) ((wipeM S vs).map M.ro) := fun H02 H2 gA gB hd2 hw2 R2 px => by
        refine hg.run [] pl _ H02 H2 (wipe σ vs) x (fun _ _ => by simp) R2 px _ fun σ2 R3 hσ => ?_
        have hw3 : wipe σ2 vs = wipe σ vs := by
          have e : wipe σ2 vs = wipe (wipe σ vs) vs := wipe_ext vs (by rw [R3.len, hg.len, List.length_map, wipeM_len, wipe_length, ← R1.len]) hσ
          rw [e]
          exact wipe_ext vs (wipe_length _ _) fun j hj => wipe_out hj
        have ap2 : ∀ (i : Nat) (m : M), S2[i]? = some m → m.own = true → σ2[i]? ≠ some (some (V.ref D)) := fun j m' hj ho => by rw [no2 j m' hj] at ho; cases ho
        refine ⟨hw3, htt [] pl _ H02 H2 σ2 (R3.addG hD hw2 ap2) _ fun H03 H3 g3 e3 R4 => ?_⟩
        have hD3 : H3 D = some (.lst ws) := R4.eg D _ upd_same
        have hd3 : H03 D = none := g3.out (Gne ws) hd2
        have g3' : Gr H1 H02 H03 := g3.sub (Gsub ws)
        have eg3 : Ex H1 H3 := R2.eg.trans e3
        cases hp : p xs[i] with
        | false =>
          rw [if_neg Bool.false_ne_true]
          refine ⟨ws, H03, hD3, ?_, hd3, gA.trans g3', R2.fwdN g3.ex eg3 R4.e0 Sno⟩
          rw [htk, List.filter_append]
          simp only [List.filter_cons, hp, List.filter_nil, List.append_nil, Bool.false_eq_true, if_false]
          exact Rps.mono (gB.ex.trans g3.ex) _ _ hr
        | true =>
          rw [if_pos rfl]
          obtain ⟨wk1, hin⟩ := hte hp
          have R3' : Rs K [] pl H1 H03 H3 σ2 S2 := R3.fwdN g3.ex eg3 R4.e0 no2
          refine wk1 [] pl _ H03 H3 σ2 (R3'.addG hD hD3 ap2) _ fun J1 H04 H4 g4 e4 R5 jk1 => ?_
          have hD4 : H4 D = some (.lst ws) := R5.eg D _ upd_same
          have hd4 : H04 D = none := g4.out (Gne ws) hd3
          have g4' : Gr H1 H03 H04 := g4.sub (Gsub ws)
          have hpre : ((xs.take (i + 1)).filter p).flatMap (fun a => ((ys a).filter (p1 a)).map (r a)) = (((xs.take i).filter p).flatMap fun a => ((ys a).filter (p1 a)).map (r a)) ++ ((ys xs[i]).filter (p1 xs[i])).map (r xs[i]) := by
            rw [htk, List.filter_append, List.flatMap_append]
            simp only [List.filter_cons, hp, List.filter_nil, if_true, List.flatMap_cons, List.flatMap_nil, List.append_nil]
          have hall : (((xs.take i).filter p).flatMap fun a => ((ys a).filter (p1 a)).map (r a)).length + (((ys xs[i]).filter (p1 xs[i])).map (r xs[i])).length ≤ 50000 := by
            have e : ((xs.filter p).flatMap fun a => ((ys a).filter (p1 a)).map (r a)) = (((xs.take (i + 1)).filter p).flatMap fun a => ((ys a).filter (p1 a)).map (r a)) ++ (((xs.drop (i + 1)).filter p).flatMap fun a => ((ys a).filter (p1 a)).map (r a)) := by
              rw [← List.flatMap_append, ← List.filter_append, List.take_append_drop]
            rw [e, hpre, List.length_append, List.length_append] at hl
            omega
          refine ⟨fun j k H => k = (ys xs[i]).length - j ∧ j ≤ (ys xs[i]).length ∧ ∃ ws H0', H D = some (.lst ws) ∧ Rps K H0' ((((xs.take i).filter p).flatMap fun a => ((ys a).filter (p1 a)).map (r a)) ++ (((ys xs[i]).take j).filter (p1 xs[i])).map (r xs[i])) ws ∧ H0' D = none ∧ Gr H1 H04 H0' ∧ Rs K [] pl H1 H0' H σ2 S2,
            ⟨(ys xs[i]).length, by simp, Nat.zero_le _, ws, H04, hD4, ?_, hd4, Gr.refl _ _, R3'.fwdN g4.ex (eg3.trans e4) R5.e0 no2⟩, ?_⟩
          · rw [List.take_zero]
            simp only [List.filter_nil, List.map_nil, List.append_nil]
            exact Rps.mono ((gB.ex.trans g3.ex).trans g4.ex) _ _ hr
          · rintro j k H5 ⟨rfl, hj, ws5, H05, hD5, hr5, hd5, g5, R6⟩
            have src1 : Ex H04 H5 := g5.ex.trans R6.e0
            by_cases hjl : j < (ys xs[i]).length
            · have hdb : ((ys xs[i]).map f1)[j]? = some (f1 (ys xs[i])[j]) := by rw [List.getElem?_map, List.getElem?_eq_getElem hjl]; rfl
              have htk1 : (ys xs[i]).take (j + 1) = (ys xs[i]).take j ++ [(ys xs[i])[j]] := by rw [List.take_add_one, List.getElem?_eq_getElem hjl]; rfl
              refine .inr ⟨jk1.go j H5 src1 (by rw [List.length_map]; exact hjl), fun H => ∃ ws H0', H D = some (.lst ws) ∧ Rps K H0' ((((xs.take i).filter p).flatMap fun a => ((ys a).filter (p1 a)).map (r a)) ++ (((ys xs[i]).take (j + 1)).filter (p1 xs[i])).map (r xs[i])) ws ∧ H0' D = none ∧ Gr H1 H04 H0' ∧ Rs K [] pl H1 H0' H σ2 S2,
                fun H kk => ⟨(ys xs[i]).length - (j + 1), by omega, rfl, hjl, kk⟩, fun x1 H6 y1 => ?_⟩
              obtain ⟨S3, hg1, htt1, hte1⟩ := hin (ys xs[i])[j] (List.getElem_mem hjl)
              have Sno1 := wipeM_noown no2 us
              have fin1 : ∀ (H06 H6 : Hp), Gr H1 H05 H06 → H06 D = none → H6 D = some (.lst ws5) → Rs K [] pl H1 H06 H6 σ2 S2 → Rp K H06 (f1 (ys xs[i])[j]) x1 → g1 x1 (wipe σ2 us) H6 fun σ3 H5 => wipe σ3 us = wipe σ2 us ∧ tt1 σ3 H5 fun b H6 =>
                  if b = true then te σ3 H6 fun y H7 => ∃ acc, H7 D = some (.lst acc) ∧ acc.length < sizeLine ∧ ∃ ws H0', upd H7 D (.lst (acc ++ [y])) D = some (.lst ws) ∧ Rps K H0' ((((xs.take i).filter p).flatMap fun a => ((ys a).filter (p1 a)).map (r a)) ++ (((ys xs[i]).take (j + 1)).filter (p1 xs[i])).map (r xs[i])) ws ∧ H0' D = none ∧ Gr H1 H04 H0' ∧ Rs K [] pl H1 H0' (upd H7 D (.lst (acc ++ [y]))) σ2 S2
                  else ∃ ws H0', H6 D = some (.lst ws) ∧ Rps K H0' ((((xs.take i).filter p).flatMap fun a => ((ys a).filter (p1 a)).map (r a)) ++ (((ys xs[i]).take (j + 1)).filter (p1 xs[i])).map (r xs[i])) ws ∧ H0' D = none ∧ Gr H1 H04 H0' ∧ Rs K [] pl H1 H0' H6 σ2 S2 := fun H06 H6 gC hd6 hD6 R7 px1 => by
                have Rw : Rs K [] pl H1 H06 H6 (wipe σ2 us) (wipeM S2 us) := R7.wiped us fun i _ => by simp
                refine hg1.run [] pl _ H06 H6 (wipe σ2 us) x1 (fun _ _ => by simp) (Rw.addG hD hD6 fun a m' ha ho => by rw [Sno1 a m' ha] at ho; cases ho) px1 _ fun σ3 R8 hσ1 => ?_
                have hw4 : wipe σ3 us = wipe σ2 us := by
                  have e : wipe σ3 us = wipe (wipe σ2 us) us := wipe_ext us (by rw [R8.len, hg1.len, wipeM_len, wipe_length, R3.len]) hσ1
                  rw [e]
                  exact wipe_ext us (wipe_length _ _) fun a ha => wipe_out ha
                refine ⟨hw4, htt1 [] pl _ H06 H6 σ3 R8 _ fun H07 H7 g7 e7 R9 => ?_⟩
                have hD7 : H7 D = some (.lst ws5) := R9.eg D _ upd_same
                have hd7 : H07 D = none := g7.out (Gne ws5) hd6
                have g7' : Gr H1 H06 H07 := g7.sub (Gsub ws5)
                cases hp1 : p1 xs[i] (ys xs[i])[j] with
                | false =>
                  rw [if_neg Bool.false_ne_true]
                  refine ⟨ws5, H07, hD7, ?_, hd7, (g5.trans gC).trans g7', R7.fwdN g7.ex (R7.eg.trans e7) R9.e0 no2⟩
                  rw [htk1, List.filter_append]
                  simp only [List.filter_cons, hp1, List.filter_nil, List.append_nil, Bool.false_eq_true, if_false]
                  exact Rps.mono (gC.ex.trans g7.ex) _ _ hr5
                | true =>
                  rw [if_pos rfl]
                  refine hte1 hp1 [] pl _ H07 H7 σ3 R9 _ fun y H08 H8 g8 e8 R10 py => ?_
                  have hD8 : H8 D = some (.lst ws5) := R10.eg D _ upd_same
                  have hd8 : H08 D = none := g8.out (Gne ws5) hd7
                  have g8' : Gr H1 H07 H08 := g8.sub (Gsub ws5)
                  have hl5 := hr5.length
                  simp only [List.length_append, List.length_map] at hl5 hall
                  have hf1 : (((ys xs[i]).take (j + 1)).filter (p1 xs[i])).length ≤ ((ys xs[i]).filter (p1 xs[i])).length := ((List.take_sublist _ _).filter _).length_le
                  rw [htk1, List.filter_append, List.length_append] at hf1
                  simp only [List.filter_cons, hp1, List.filter_nil, if_true, List.length_singleton] at hf1
                  refine ⟨ws5, hD8, sz_lt (by omega), ws5 ++ [y], H08, upd_same, ?_, hd8, ((g5.trans gC).trans g7').trans g8', ?_⟩
                  · rw [htk1, List.filter_append, List.map_append, ← List.append_assoc]
                    simp only [List.filter_cons, hp1, List.filter_nil, List.map_nil, List.map_cons, if_true]
                    exact (Rps.mono ((gC.ex.trans g7.ex).trans g8.ex) _ _ hr5).append ⟨y, [], rfl, py, rfl⟩
                  · exact (R7.fwdN (g7.ex.trans g8.ex) (R7.eg.trans (e7.trans e8)) R10.e0 no2).upd_free hd8 hD ap2
              rcases jk1.yld j H5 x1 H6 _ src1 hdb y1 with ⟨e6, rp⟩ | ⟨T, es, ws', hT, e6, e7, e8, rp⟩
              · subst e6
                exact fin1 H05 H6 (Gr.refl _ _) hd5 hD5 R6 (Rp.mono g5.ex _ _ rp)
              · subst e6
                have nTD : D ≠ T := ne_of_none hD5 hT
                obtain ⟨gT, eT, RT⟩ := R6.lay (o := .tup ws') hT
                refine fin1 _ _ gT (by rw [upd_ne nTD]; exact hd5) (by rw [upd_ne nTD]; exact hD5) RT ?_
                rw [e7, e8]
                exact ⟨T, ws', rfl, upd_same, Rps.mono (g5.ex.trans gT.ex) _ _ rp⟩
            · have ej : j = (ys xs[i]).length := by omega
              subst ej
              rw [List.take_length] at hr5
              refine .inl ⟨jk1.stop _ H5 src1 (by rw [List.length_map]; exact Nat.le_refl _), ws5, H05, hD5, ?_, hd5, ((gA.trans g3').trans g4').trans g5, R2.fwdN ((g3.ex.trans g4.ex).trans g5.ex) R6.eg R6.e0 Sno⟩
              rw [hpre]; exact hr5
      rcases jk.yld i H' x H2 _ src hda y with ⟨e2, rp⟩ | ⟨T, es, ws', hT, e2, e3, e4, rp⟩
      · subst e2
        exact fin H0' H2 g' (Gr.refl _ _) hd0 hw R' (Rp.mono g'.ex _ _ rp)
      · subst e2
        have nTD : D ≠ T := ne_of_none hw hT
        obtain ⟨gT, eT, RT⟩ := R'.lay (o := .tup ws') hT
        refine fin _ _ (g'.trans gT) gT (by rw [upd_ne nTD]; exact hd0) (by rw [upd_ne nTD]; exact hw) RT ?_
        rw [e3, e4]
        exact ⟨T, ws', rfl, upd_same, Rps.mono (g'.ex.trans gT.ex) _ _ rp⟩
    · have ei : i = xs.length := by omega
      subst ei
      rw [List.take_length] at hr
      refine .inl ⟨jk.stop _ H' src (by rw [List.length_map]; exact Nat.le_refl _), q D H0' H' (g1'.trans (g'.sub fun a k => ?_)) (e1.trans src) (R1.fwd g'.ex src R'.e0 fun j m' l h ho z k k2 => ?_) hd0 dg dap ⟨ws, hw, hr⟩⟩
      · cases z : G a with
        | none => exact absurd z k
        | some o => rw [R1.eg a o z]; exact fun z => nomatch z
      · exact g'.out k2 k
end
end Dl
/-! Calls of defs, methods, classes: promises over slots. -/
namespace Dl
open PySem L2 Evl

/-- a promise: the arguments, what is wished of the answer and of the arguments behind (those that are no own objects are .no then) -/
abbrev Ct := List M → (D → List M → Prop) → Prop
def noV : Nat → V := fun _ => .non
def spD (K : PySem.W.Frag) (C : Ct) : Sp := fun vs H Q _ => ∃ S R G H0, C S R ∧ Rs K [] noV G H0 H (vs.map some) S ∧
  ∀ d S' v H0' H', R d S' → Gr G H0 H0' → Rs K [] noV G H0' H' (vs.map some) S' → Rp K H0' d v → Q v H'
/-- an argument: data, a slot that is read, an own object of a slot -/
inductive Ar where
  | d (x : D) | b (i : Nat) | s (i : Nat)
def Ar.slot? : Ar → Option Nat
  | .s i => some i
  | _ => none
def slots (as : List Ar) : List Nat := as.filterMap Ar.slot?
/-- a slot that is handed over to be read -/
def M.toB : M → M
  | .o x => .b x
  | .b x => .b x
  | .d x => .d x
  | .q ns => .q ns
  | _ => .no
def M.rdB : M → Bool
  | .o _ => true
  | .b _ => true
  | .d _ => true
  | .q _ => true
  | _ => false
theorem rd_toB {m : M} {x : D} (h : m.rd x) : m.toB.rd x := by cases m <;> first | exact h | exact h.elim
theorem rdB_of {m : M} {x : D} (h : m.rd x) : m.rdB = true := by cases m <;> first | rfl | exact h.elim
def arM (S : List M) : Ar → M
  | .d x => .d x
  | .b i => match S[i]? with
    | some m => m.toB
    | none => .no
  | .s i => match S[i]? with
    | some m => m
    | none => .no
def arOne (S : List M) (us : List Nat) : Ar → Bool
  | .d _ => true
  | .b i => (!us.contains i) && match S[i]? with
    | some m => m.rdB
    | none => false
  | .s i => match S[i]? with
    | some m => m.own
    | none => false
def ndB : List Nat → Bool
  | [] => true
  | x :: xs => (!xs.contains x) && ndB xs
def arChk (S : List M) (as : List Ar) : Bool := as.all (arOne S (slots as)) && ndB (slots as)
/-- a slot of the callee's, back in the caller's -/
def M.nb : M → M
  | .b _ => .no
  | .q _ => .no
  | m => m
def putBack : List Ar → List M → List M → List M
  | .s i :: as, m :: So, S => putBack as So (S.set i m.nb)
  | _ :: as, _ :: So, S => putBack as So S
  | _, _, S => S
def Arel (K : PySem.W.Frag) (H0 : Hp) (σ : L2.St) : Ar → V → Prop
  | .d x, v => Rp K H0 x v
  | .b i, v => σ[i]? = some (some v)
  | .s i, v => σ[i]? = some (some v)
abbrev Arels (K : PySem.W.Frag) (H0 : Hp) (σ : L2.St) : List Ar → List V → Prop := Paired (Arel K H0 σ)
def ArN (K : PySem.W.Frag) (ta : TA) (S : List M) (R : List Ar → List M → Prop) : Prop := ∀ Pn pl G H0 H σ, Rs K Pn pl G H0 H σ S → ∀ Q : List V → Hp → Prop,
  (∀ as S' vs H0' H', R as S' → Gr G H0 H0' → Rs K Pn pl G H0' H' σ S' → Arels K H0' σ as vs → Q vs H') → ta σ H Q
section
variable {K : PySem.W.Frag} {Pn : List Nat} {pl : Nat → V} {G H0 H H1 H2 : Hp} {σ : L2.St} {S : List M} {C : Ct} {R : D → List M → Prop}
theorem Arel.mono (e : Ex H0 H1) {a : Ar} {v : V} (h : Arel K H0 σ a v) : Arel K H1 σ a v := by
  cases a with
  | d x => exact Rp.mono e _ _ h
  | b i => exact h
  | s i => exact h
theorem arn_nil {R : List Ar → List M → Prop} (r : R [] S) : ArN K tNil S R := fun Pn pl G H0 H σ Rr Q q => q [] S [] H0 H r (Gr.refl _ _) Rr .nil
theorem arn_d {te : TE} {tr : TA} {R : List Ar → List M → Prop} (h : EvN K te S fun d S1 => ArN K tr S1 fun as S2 => R (.d d :: as) S2) : ArN K (tCons te tr) S R := fun Pn pl G H0 H σ Rr Q q =>
  h Pn pl G H0 H σ Rr _ fun d S1 v H01 H1 hr g1 R1 p1 => hr Pn pl G H01 H1 σ R1 _ fun as S2 vs H02 H2 r g2 R2 p2 => q (.d d :: as) S2 (v :: vs) H02 H2 r (g1.trans g2) R2 (.cons (Rp.mono g2.ex _ _ p1) p2)
theorem arn_p {te : TE} {tr : TA} {d : D} {R : List Ar → List M → Prop} (h : EvP K te S d) (k : ArN K tr S fun as S2 => R (.d d :: as) S2) : ArN K (tCons te tr) S R := arn_d (h.n k)
theorem M.val {m : M} {ov : Option V} (h : Rm K G H0 H m ov) (hm : m.own = true ∨ ∃ x, m.rd x) : ∃ v, ov = some v := by
  cases m with
  | no => exact hm.elim (fun z => by cases z) fun ⟨x, z⟩ => z.elim
  | d x => obtain ⟨v, e, _⟩ := h; exact ⟨v, e⟩
  | b x => obtain ⟨v, e, _⟩ := h; exact ⟨_, e⟩
  | q ns => obtain ⟨v, e, _⟩ := h; exact ⟨_, e⟩
  | o x => obtain ⟨v, e, _⟩ := h; exact ⟨_, e⟩
  | e φ => obtain ⟨l, x, _, e, _⟩ := h; exact ⟨_, e⟩
theorem arn_s {i : Nat} {m : M} {tr : TA} {R : List Ar → List M → Prop} (h0 : S[i]? = some m) (hm : m.own = true) (k : ArN K tr S fun as S2 => R (.s i :: as) S2) : ArN K (tCons (tVar i) tr) S R := fun Pn pl G H0 H σ Rr Q q => by
  obtain ⟨ov, h1, h2⟩ := Rr.sl i m h0
  obtain ⟨v, rfl⟩ := M.val h2 (.inl hm)
  exact ⟨v, h1, k Pn pl G H0 H σ Rr _ fun as S2 vs H02 H2 r g2 R2 p2 => q (.s i :: as) S2 (v :: vs) H02 H2 r g2 R2 (.cons h1 p2)⟩
theorem arn_b {i : Nat} {m : M} {x : D} {tr : TA} {R : List Ar → List M → Prop} (h0 : S[i]? = some m) (hm : m.rd x) (k : ArN K tr S fun as S2 => R (.b i :: as) S2) : ArN K (tCons (tVar i) tr) S R := fun Pn pl G H0 H σ Rr Q q => by
  obtain ⟨ov, h1, h2⟩ := Rr.sl i m h0
  obtain ⟨v, rfl⟩ := M.val h2 (.inr ⟨x, hm⟩)
  exact ⟨v, h1, k Pn pl G H0 H σ Rr _ fun as S2 vs H02 H2 r g2 R2 p2 => q (.b i :: as) S2 (v :: vs) H02 H2 r g2 R2 (.cons h1 p2)⟩
theorem arn_q {i : Nat} {ns : List Int} {tr : TA} {R : List Ar → List M → Prop} (h0 : S[i]? = some (.q ns)) (k : ArN K tr S fun as S2 => R (.b i :: as) S2) : ArN K (tCons (tVar i) tr) S R := fun Pn pl G H0 H σ Rr Q q => by
  obtain ⟨ov, h1, v, rfl, h2⟩ := Rr.sl i _ h0
  exact ⟨_, h1, k Pn pl G H0 H σ Rr _ fun as S2 vs H02 H2 r g2 R2 p2 => q (.b i :: as) S2 (_ :: vs) H02 H2 r g2 R2 (.cons h1 p2)⟩
theorem mem_slots {as : List Ar} {i : Nat} : i ∈ slots as ↔ Ar.s i ∈ as := by
  unfold slots
  rw [List.mem_filterMap]
  constructor
  · rintro ⟨a, h, e⟩
    cases a with
    | s j => cases e; exact h
    | d x => cases e
    | b j => cases e
  · exact fun h => ⟨_, h, rfl⟩
/-- the addresses handed over -/
def Psd (σ : L2.St) (as : List Ar) (a : Addr) : Prop := ∃ i, Ar.s i ∈ as ∧ σ[i]? = some (some (V.ref a))
open Classical in
noncomputable def Gc (σ : L2.St) (as : List Ar) (H : Hp) : Hp := fun a => if Psd σ as a then none else H a
theorem Gc_no {as : List Ar} {a : Addr} (h : Psd σ as a) : Gc σ as H a = none := by unfold Gc; rw [if_pos h]
theorem Gc_at {as : List Ar} {a : Addr} (h : ¬ Psd σ as a) : Gc σ as H a = H a := by unfold Gc; rw [if_neg h]
theorem Gc_ex {as : List Ar} : Ex (Gc σ as H) H := fun a o e => by
  by_cases h : Psd σ as a
  · rw [Gc_no h] at e; cases e
  · rw [Gc_at h] at e; exact e
theorem Paired.get {α β : Type} {F : α → β → Prop} : ∀ {as : List α} {bs : List β} {i : Nat} {a : α}, Paired F as bs → as[i]? = some a → ∃ b, bs[i]? = some b ∧ F a b
  | _, _, _, _, .nil, e => by cases e
  | _, _, 0, _, .cons r t, e => by cases e; exact ⟨_, rfl, r⟩
  | _, _, i + 1, _, .cons r t, e => Paired.get (i := i) t e
theorem Paired.len {α β : Type} {F : α → β → Prop} : ∀ {as : List α} {bs : List β}, Paired F as bs → as.length = bs.length
  | _, _, .nil => rfl
  | _, _, .cons r t => by rw [List.length_cons, List.length_cons, Paired.len t]
theorem nd_uniq : ∀ {as : List Ar} {i j k : Nat}, ndB (slots as) = true → as[i]? = some (.s k) → as[j]? = some (.s k) → i = j
  | [], i, _, _, _, e, _ => by cases e
  | a :: as, i, j, k, h, ei, ej => by
    have tail : ndB (slots as) = true := by
      cases a <;> simp only [slots, List.filterMap_cons, Ar.slot?] at h <;> first
        | exact h
        | (simp only [ndB, Bool.and_eq_true] at h; exact h.2)
    have no : ∀ n : Nat, a = Ar.s k → as[n]? = some (Ar.s k) → False := fun n ea en => by
      subst ea
      simp only [slots, List.filterMap_cons, Ar.slot?, ndB, Bool.and_eq_true, Bool.not_eq_true'] at h
      have : k ∈ slots as := mem_slots.mpr (List.mem_of_getElem? en)
      have h1 := h.1
      rw [List.contains_eq_mem] at h1
      exact absurd this (of_decide_eq_false h1)
    cases i with
    | zero =>
      cases j with
      | zero => rfl
      | succ j => exact (no j (Option.some.inj ei) ej).elim
    | succ i =>
      cases j with
      | zero => exact (no i (Option.some.inj ej) ei).elim
      | succ j => rw [nd_uniq (as := as) tail ei ej]
theorem putBack_len : ∀ (as : List Ar) (So S : List M), (putBack as So S).length = S.length
  | [], So, S => by cases So <;> rfl
  | a :: as, [], S => by cases a <;> rfl
  | .s i :: as, m :: So, S => by unfold putBack; rw [putBack_len as So, List.length_set]
  | .d x :: as, m :: So, S => by unfold putBack; exact putBack_len as So S
  | .b x :: as, m :: So, S => by unfold putBack; exact putBack_len as So S
theorem putBack_get : ∀ {as : List Ar} {So S : List M} {i : Nat} {m : M}, as.length = So.length → ndB (slots as) = true → (putBack as So S)[i]? = some m →
    (S[i]? = some m ∧ Ar.s i ∉ as) ∨ ∃ (j : Nat) (n : M), as[j]? = some (Ar.s i) ∧ So[j]? = some n ∧ m = n.nb
  | [], So, S, i, m, hl, nd, h => by cases So <;> exact .inl ⟨h, by simp⟩
  | a :: as, [], S, i, m, hl, nd, h => by cases hl
  | .d x :: as, n :: So, S, i, m, hl, nd, h => by
    rcases putBack_get (as := as) (So := So) (by simpa using hl) (by simpa [slots, List.filterMap_cons, Ar.slot?] using nd) (show (putBack as So S)[i]? = some m from h) with ⟨a, b⟩ | ⟨j, n', a, b, c⟩
    · exact .inl ⟨a, fun z => (List.mem_cons.mp z).elim (fun z => nomatch z) b⟩
    · exact .inr ⟨j + 1, n', a, b, c⟩
  | .b x :: as, n :: So, S, i, m, hl, nd, h => by
    rcases putBack_get (as := as) (So := So) (by simpa using hl) (by simpa [slots, List.filterMap_cons, Ar.slot?] using nd) (show (putBack as So S)[i]? = some m from h) with ⟨a, b⟩ | ⟨j, n', a, b, c⟩
    · exact .inl ⟨a, fun z => (List.mem_cons.mp z).elim (fun z => nomatch z) b⟩
    · exact .inr ⟨j + 1, n', a, b, c⟩
  | .s k :: as, n :: So, S, i, m, hl, nd, h => by
    have nd' : (!(slots as).contains k) = true ∧ ndB (slots as) = true := by
      have e : slots (.s k :: as) = k :: slots as := rfl
      rw [e] at nd
      unfold ndB at nd
      rw [Bool.and_eq_true] at nd
      exact nd
    rcases putBack_get (as := as) (So := So) (by simpa using hl) nd'.2 (show (putBack as So (S.set k n.nb))[i]? = some m from h) with ⟨a, b⟩ | ⟨j, n', a, b, c⟩
    · by_cases e : k = i
      · subst e
        have hlt : k < S.length := by
          have := (List.getElem?_eq_some_iff.mp a).1
          rwa [List.length_set] at this
        rw [List.getElem?_set_self hlt] at a
        exact .inr ⟨0, n, rfl, rfl, (Option.some.inj a).symm⟩
      · rw [List.getElem?_set_ne e] at a
        exact .inl ⟨a, fun z => (List.mem_cons.mp z).elim (fun z => e (Ar.s.inj z).symm) b⟩
    · exact .inr ⟨j + 1, n', a, b, c⟩
theorem arOne_of {as : List Ar} (h : arChk S as = true) {a : Ar} (ha : a ∈ as) : arOne S (slots as) a = true := by
  unfold arChk at h
  rw [Bool.and_eq_true, List.all_eq_true] at h
  exact h.1 a ha
theorem nd_of {as : List Ar} (h : arChk S as = true) : ndB (slots as) = true := by
  unfold arChk at h
  rw [Bool.and_eq_true] at h
  exact h.2
theorem own_of {as : List Ar} (h : arChk S as = true) {i : Nat} (ha : Ar.s i ∈ as) : ∃ m, S[i]? = some m ∧ m.own = true := by
  have q : (match S[i]? with | some m => m.own | none => false) = true := arOne_of h ha
  cases e : S[i]? with
  | none => rw [e] at q; cases q
  | some m => rw [e] at q; exact ⟨m, rfl, q⟩
theorem call_core0 {as : List Ar} {vs : List V} {R0 : D → List M → Prop} (R1 : Rs K Pn pl G H0 H σ S) (ha : Arels K H0 σ as vs) (ok : arChk S as = true) (hc : C (as.map (arM S)) R0) {Q : VK} {E : XK}
    (q : ∀ d So v H0' H', R0 d So → Gr G H0 H0' → Rs K Pn pl G H0' H' σ (putBack as So S) → Rp K H0' d v → Q v H') : spD K C vs H Q E := by
  -- a passed address is an own one
  have psd : ∀ l, Psd σ as l → H0 l = none ∧ G l = none ∧ H l ≠ none := fun l ⟨i, hi, e⟩ => by
    obtain ⟨m, hm, ho⟩ := own_of ok hi
    obtain ⟨ov, h1, h2⟩ := R1.sl i m hm
    obtain ⟨l', e1, e2, e3, e4⟩ := h2.addr ho
    rw [e] at h1
    cases h1
    cases e1
    exact ⟨e2, e3, e4⟩
  have exG : Ex G (Gc σ as H) := fun a o e => by
    rw [Gc_at fun z => by rw [(psd a z).2.1] at e; cases e]
    exact R1.eg a o e
  refine ⟨_, _, Gc σ as H, H0, hc, ⟨by rw [List.length_map, List.length_map, Paired.len ha], R1.e0, Gc_ex, fun j m hj => ?_, fun j1 j2 m1 m2 h1 h2 o1 o2 e => ?_, fun i hi => by cases hi⟩, fun d So v H02 H2 hr g2 R2 p => ?_⟩
  · rw [List.getElem?_map] at hj
    cases hq : as[j]? with
    | none => rw [hq] at hj; cases hj
    | some a =>
      rw [hq] at hj
      cases hj
      obtain ⟨v, hv, hrel⟩ := Paired.get ha hq
      refine ⟨some v, by rw [List.getElem?_map, hv]; rfl, ?_⟩
      have one := arOne_of ok (List.mem_of_getElem? hq)
      cases a with
      | d x => exact ⟨v, rfl, hrel⟩
      | s i =>
        obtain ⟨m, hm, ho⟩ := own_of ok (List.mem_of_getElem? hq)
        have hrel' : σ[i]? = some (some v) := hrel
        obtain ⟨ov, h1, h2⟩ := R1.sl i m hm
        rw [hrel'] at h1
        cases h1
        have pa : ∀ l, v = .ref l → Gc σ as H l = none := fun l e => Gc_no ⟨i, List.mem_of_getElem? hq, by rw [hrel', e]⟩
        have am : arM S (.s i) = m := by simp only [arM, hm]
        rw [am]
        cases m with
        | no => cases ho
        | d x => cases ho
        | b x => cases ho
        | q ns => cases ho
        | o x => obtain ⟨l, k1, k2, k3, k4⟩ := h2; cases k1; exact ⟨l, rfl, k2, pa l rfl, k4⟩
        | e φ => obtain ⟨l, x, kx, k1, k2, k3, k4⟩ := h2; cases k1; exact ⟨l, x, kx, rfl, k2, pa l rfl, k4⟩
      | b i =>
        have hrel' : σ[i]? = some (some v) := hrel
        have one : ((!(slots as).contains i) && match S[i]? with
          | some m => m.rdB
          | none => false) = true := one
        rw [Bool.and_eq_true] at one
        have nos : Ar.s i ∉ as := fun z => by
          have := mem_slots.mpr z
          have h1 := one.1
          rw [Bool.not_eq_true', List.contains_eq_mem] at h1
          exact absurd this (of_decide_eq_false h1)
        cases hm : S[i]? with
        | none => rw [show arM S (.b i) = .no by simp only [arM, hm]]; trivial
        | some m =>
          obtain ⟨ov, h1, h2⟩ := R1.sl i m hm
          rw [hrel'] at h1
          cases h1
          simp only [arM, hm]
          cases m with
          | no => trivial
          | e φ => trivial
          | d x => exact h2
          | o x =>
            obtain ⟨l, k1, k2, k3, k4⟩ := h2
            refine ⟨l, k1, k4.at (Gc_at fun ⟨i', hi', e'⟩ => ?_)⟩
            obtain ⟨m', hm', ho'⟩ := own_of ok hi'
            have ei := R1.ap i i' _ m' hm hm' rfl ho' (by rw [hrel', e', k1])
            rw [← ei] at hi'
            exact nos hi'
          | b x =>
            obtain ⟨l, k1, k2⟩ := h2
            exact ⟨l, k1, k2.mono exG⟩
          | q ns =>
            obtain ⟨l, k1, k2⟩ := h2
            exact ⟨l, k1, ex_l exG k2⟩
  · rw [List.getElem?_map] at h1 h2
    cases q1 : as[j1]? with
    | none => rw [q1] at h1; cases h1
    | some a1 =>
      cases q2 : as[j2]? with
      | none => rw [q2] at h2; cases h2
      | some a2 =>
        rw [q1] at h1
        rw [q2] at h2
        cases h1
        cases h2
        have isS : ∀ a : Ar, (arM S a).own = true → ∃ i, a = .s i := fun a h => by
          cases a with
          | s i => exact ⟨i, rfl⟩
          | d x => cases h
          | b i =>
            cases hm : S[i]? with
            | none => simp only [arM, hm] at h; cases h
            | some m => simp only [arM, hm] at h; cases m <;> cases h
        obtain ⟨i1, rfl⟩ := isS a1 o1
        obtain ⟨i2, rfl⟩ := isS a2 o2
        obtain ⟨v1, hv1, r1⟩ := Paired.get ha q1
        obtain ⟨v2, hv2, r2⟩ := Paired.get ha q2
        have r1' : σ[i1]? = some (some v1) := r1
        have r2' : σ[i2]? = some (some v2) := r2
        rw [List.getElem?_map, List.getElem?_map, hv1, hv2] at e
        have ev : v1 = v2 := Option.some.inj (Option.some.inj e)
        obtain ⟨m1, hm1, ho1⟩ := own_of ok (List.mem_of_getElem? q1)
        obtain ⟨m2, hm2, ho2⟩ := own_of ok (List.mem_of_getElem? q2)
        have ei := R1.ap i1 i2 m1 m2 hm1 hm2 ho1 ho2 (by rw [r1', r2', ev])
        subst ei
        exact nd_uniq (nd_of ok) q1 q2
  · refine q d _ v H02 H2 hr (g2.sub fun a k => ?_) ⟨by rw [putBack_len]; exact R1.len, R2.e0, exG.trans R2.eg, fun i m hi => ?_, fun i j a b hi hj oa ob e => ?_, R1.pin⟩ p
    · cases z : G a with
      | none => exact absurd z k
      | some o => rw [exG a o z]; exact fun z => nomatch z
    · have hSo : as.length = So.length := by have := R2.len; rw [List.length_map] at this; rw [Paired.len ha, this]
      rcases putBack_get hSo (nd_of ok) hi with ⟨hS, hn⟩ | ⟨j, n, hj, hn, rfl⟩
      · obtain ⟨ov, h1, h2⟩ := R1.sl i m hS
        refine ⟨ov, h1, ?_⟩
        have free : ∀ l, ov = some (.ref l) → m.own = true → ¬ Psd σ as l := fun l el ho ⟨i', hi', e'⟩ => by
          obtain ⟨m', hm', ho'⟩ := own_of ok hi'
          have ei := R1.ap i i' _ m' hS hm' ho ho' (by rw [h1, e', el])
          rw [← ei] at hi'
          exact hn hi'
        cases m with
        | no => trivial
        | d x => obtain ⟨w, k1, k2⟩ := h2; exact ⟨w, k1, Rp.mono g2.ex _ _ k2⟩
        | b x => obtain ⟨l, k1, k2⟩ := h2; exact ⟨l, k1, k2.mono0 g2.ex⟩
        | q ns => exact h2
        | o x =>
          obtain ⟨l, k1, k2, k3, k4⟩ := h2
          have hG : Gc σ as H l = H l := Gc_at (free l k1 rfl)
          exact ⟨l, k1, g2.out (by rw [hG]; exact k4.some) k2, k3, ((k4.at hG).mono R2.eg).mono0 g2.ex⟩
        | e φ =>
          obtain ⟨l, x, kx, k1, k2, k3, k4⟩ := h2
          have hG : Gc σ as H l = H l := Gc_at (free l k1 rfl)
          exact ⟨l, x, kx, k1, g2.out (by rw [hG]; exact k4.some) k2, k3, ((k4.at hG).mono R2.eg).mono0 g2.ex⟩
      · obtain ⟨w, hw, hrel⟩ := Paired.get ha hj
        have hrel' : σ[i]? = some (some w) := hrel
        obtain ⟨ov, h1, h2⟩ := R2.sl j n hn
        rw [List.getElem?_map, hw] at h1
        cases h1
        refine ⟨some w, hrel', ?_⟩
        have gb : ∀ l, w = .ref l → G l = none := fun l e => (psd l ⟨i, List.mem_of_getElem? hj, by rw [hrel', e]⟩).2.1
        cases n with
        | no => trivial
        | b x => trivial
        | q ns => trivial
        | d x => exact h2
        | o x => obtain ⟨l, k1, k2, k3, k4⟩ := h2; exact ⟨l, k1, k2, gb l (Option.some.inj k1), k4⟩
        | e φ => obtain ⟨l, x, kx, k1, k2, k3, k4⟩ := h2; exact ⟨l, x, kx, k1, k2, gb l (Option.some.inj k1), k4⟩
    · have hSo : as.length = So.length := by have := R2.len; rw [List.length_map] at this; rw [Paired.len ha, this]
      have back : ∀ (i : Nat) (m : M), (putBack as So S)[i]? = some m → m.own = true → ∃ m', S[i]? = some m' ∧ m'.own = true := fun i m hi ho => by
        rcases putBack_get hSo (nd_of ok) hi with ⟨hS, hn⟩ | ⟨j, n, hj, hn, rfl⟩
        · exact ⟨m, hS, ho⟩
        · exact own_of ok (List.mem_of_getElem? hj)
      obtain ⟨a', x1, x2⟩ := back i a hi oa
      obtain ⟨b', y1, y2⟩ := back j b hj ob
      exact R1.ap i j a' b' x1 y1 x2 y2 e
theorem call_core {as : List Ar} {vs : List V} (R1 : Rs K Pn pl G H0 H σ S) (ha : Arels K H0 σ as vs) (ok : arChk S as = true) (hc : C (as.map (arM S)) fun d So => R d (putBack as So S)) {Q : VK} {E : XK}
    (q : ∀ d S' v H0' H', R d S' → Gr G H0 H0' → Rs K Pn pl G H0' H' σ S' → Rp K H0' d v → Q v H') : spD K C vs H Q E := call_core0 R1 ha ok hc fun d So v H0' H' r => q d _ v H0' H' r
/-- f(..) -/
theorem evn_call {ta : TA} {E : XK} (h : ArN K ta S fun as S1 => arChk S1 as = true ∧ C (as.map (arM S1)) fun d So => R d (putBack as So S1)) : EvN K (tCall (spD K C) [] E ta) S R := fun Pn pl G H0 H σ Rr Q q =>
  h Pn pl G H0 H σ Rr _ fun as S1 vs H01 H1 ⟨ok, hc⟩ g1 R1 ha => by
    rw [List.append_nil]
    exact call_core R1 ha ok hc fun d S' v H0' H' r g R' p => q d S' v H0' H' r (g1.trans g) R' p

/-- an instance in a slot -/
def M.insOf (Ca : Addr) (f : PySem.Str) : M → Prop
  | .d x => ∃ ns ds, x = .ins Ca ns ds ∧ ns.length = ds.length ∧ f ∉ ns
  | .b x => ∃ ns ds, x = .ins Ca ns ds ∧ ns.length = ds.length ∧ f ∉ ns
  | .o x => ∃ ns ds, x = .ins Ca ns ds ∧ ns.length = ds.length ∧ f ∉ ns
  | .e φ => ∀ x, φ x → ∃ ns ds, x = .ins Ca ns ds ∧ ns.length = ds.length ∧ f ∉ ns
  | .no => False
  | .q _ => False
theorem lookup_no {f : PySem.Str} : ∀ {ns : List PySem.Str} {vs : List V}, f ∉ ns → (ns.zip vs).lookup f = none
  | [], vs, _ => by cases vs <;> rfl
  | n :: ns, [], _ => rfl
  | n :: ns, v :: vs, h => by
    have hb : (f == n) = false := beq_eq_false_iff_ne.mpr fun z => h (by rw [z]; simp)
    rw [List.zip_cons_cons]
    simp only [List.lookup, hb]
    exact lookup_no fun z => h (List.mem_cons_of_mem _ z)
theorem ins_slot {Ca : Addr} {f : PySem.Str} {m : M} {ov : Option V} (e0 : Ex H0 H) (eg : Ex G H) (h : Rm K G H0 H m ov) (hm : m.insOf Ca f) : ∃ a dx fs, ov = some (.ref a) ∧ H a = some (.ins Ca dx fs) ∧ fs.lookup f = none := by
  have key : ∀ {H' : Hp} {ns : List PySem.Str} {ds : List D} {l : Addr}, Ex H' H → f ∉ ns → Ro K H0 H' (.ins Ca ns ds) l → ∃ dx fs, H l = some (.ins Ca dx fs) ∧ fs.lookup f = none := fun {H' ns ds l} e hf o => by
    obtain ⟨dx, vs, k1, k2, k3⟩ := o
    exact ⟨dx, _, e _ _ k1, lookup_no hf⟩
  cases m with
  | no => exact hm.elim
  | q ns => exact hm.elim
  | d x =>
    obtain ⟨ns, ds, rfl, _, hf⟩ := hm
    obtain ⟨v, rfl, p⟩ := h
    unfold Rp at p
    obtain ⟨a, dx, vs, rfl, k1, k2, k3⟩ := p
    exact ⟨a, dx, _, rfl, e0 _ _ k1, lookup_no hf⟩
  | b x =>
    obtain ⟨ns, ds, rfl, _, hf⟩ := hm
    obtain ⟨l, rfl, o⟩ := h
    obtain ⟨dx, fs, k⟩ := key eg hf o
    exact ⟨l, dx, fs, rfl, k⟩
  | o x =>
    obtain ⟨ns, ds, rfl, _, hf⟩ := hm
    obtain ⟨l, rfl, _, _, o⟩ := h
    obtain ⟨dx, fs, k⟩ := key (Ex.refl _) hf o
    exact ⟨l, dx, fs, rfl, k⟩
  | e φ =>
    obtain ⟨l, x, kx, rfl, _, _, o⟩ := h
    obtain ⟨ns, ds, rfl, _, hf⟩ := hm x kx
    obtain ⟨dx, fs, k⟩ := key (Ex.refl _) hf o
    exact ⟨l, dx, fs, rfl, k⟩
def arV (i : Nat) (m : M) : Ar := if m.own then .s i else .b i
/-- x.m(..), x a name -/
theorem evn_meth {Ca : Addr} {f : PySem.Str} {i : Nat} {m : M} {ta : TA} {E : XK} (h0 : S[i]? = some m) (hm : m.insOf Ca f) (h : ArN K ta S fun as S1 => arChk S1 (arV i m :: as) = true ∧ C ((arV i m :: as).map (arM S1)) fun d So => R d (putBack (arV i m :: as) So S1)) :
    EvN K (tMeth Ca f (spD K C) [] E (tVar i) ta) S R := fun Pn pl G H0 H σ Rr Q q => by
  obtain ⟨ov, h1, h2⟩ := Rr.sl i m h0
  obtain ⟨a, dx, fs, rfl, k1, k2⟩ := ins_slot Rr.e0 Rr.eg h2 hm
  refine ⟨.ref a, h1, a, dx, fs, rfl, k1, k2, h Pn pl G H0 H σ Rr _ fun as S1 vs H01 H1 ⟨ok, hc⟩ g1 R1 ha => ?_⟩
  rw [List.append_nil]
  have hA : Arel K H01 σ (arV i m) (.ref a) := by
    unfold arV
    split
    · exact h1
    · exact h1
  exact call_core R1 (.cons hA ha) ok hc fun d S' v H0' H' r g R' p => q d S' v H0' H' r (g1.trans g) R' p
/-- e.m(..), e gives an instance for good -/
theorem evn_methd {Ca : Addr} {f : PySem.Str} {ns : List PySem.Str} {ds : List D} {to : TE} {ta : TA} {E : XK} (h0 : EvP K to S (.ins Ca ns ds)) (hf : f ∉ ns)
    (h : ArN K ta S fun as S1 => arChk S1 as = true ∧ C (.d (.ins Ca ns ds) :: as.map (arM S1)) fun d So => R d (putBack (.d (.ins Ca ns ds) :: as) So S1)) :
    EvN K (tMeth Ca f (spD K C) [] E to ta) S R := fun Pn pl G H0 H σ Rr Q q => h0 Pn pl G H0 H σ Rr _ fun v H01 H1 g1 e1 R1 p1 => by
  have p1' := p1
  unfold Rp at p1'
  obtain ⟨a, dx, vs, rfl, k1, k2, k3⟩ := p1'
  refine ⟨a, dx, _, rfl, R1.e0 _ _ k1, lookup_no hf, h Pn pl G H01 H1 σ R1 _ fun as S1 vs' H02 H2 ⟨ok, hc⟩ g2 R2 ha => ?_⟩
  rw [List.append_nil]
  have ok' : arChk S1 (.d (.ins Ca ns ds) :: as) = true := by
    unfold arChk at *
    exact ok
  exact call_core R2 (.cons (show Arel K H02 σ (.d (.ins Ca ns ds)) (.ref a) from Rp.mono g2.ex _ _ p1) ha) ok' hc fun d S' v H0' H' r g R' p => q d S' v H0' H' r ((g1.trans g2).trans g) R' p
/-! ### C(..) -/
theorem Rs.push (R : Rs K Pn pl G H0 H σ S) {p : Addr} {x : D} (h0 : H0 p = none) (hg : G p = none) (ap : Apart σ S p) (o : Ro K H0 H x p) : Rs K Pn pl G H0 H (σ ++ [some (.ref p)]) (S ++ [.o x]) where
  len := by rw [List.length_append, List.length_append, R.len]; rfl
  e0 := R.e0
  eg := R.eg
  sl := fun i m h => by
    by_cases q : i < S.length
    · rw [List.getElem?_append_left q] at h
      rw [List.getElem?_append_left (by rw [R.len]; exact q)]
      exact R.sl i m h
    · rw [List.getElem?_append_right (by omega)] at h
      rw [List.getElem?_append_right (by rw [R.len]; omega), R.len]
      have e : i - S.length = 0 := by
        have := (List.getElem?_eq_some_iff.mp h).1
        simp at this
        exact this
      rw [e] at h ⊢
      cases h
      exact ⟨_, rfl, p, rfl, h0, hg, o⟩
  ap := fun i j a b ha hb oa ob e => by
    have at_ : ∀ (k : Nat) (m : M), (S ++ [M.o x])[k]? = some m → (k < S.length ∧ S[k]? = some m ∧ (σ ++ [some (V.ref p)])[k]? = σ[k]?) ∨ (k = S.length ∧ (σ ++ [some (V.ref p)])[k]? = some (some (V.ref p))) := fun k m h => by
      by_cases q : k < S.length
      · rw [List.getElem?_append_left q] at h
        exact .inl ⟨q, h, List.getElem?_append_left (by rw [R.len]; exact q)⟩
      · rw [List.getElem?_append_right (by omega)] at h
        have e : k - S.length = 0 := by
          have := (List.getElem?_eq_some_iff.mp h).1
          simp at this
          exact this
        refine .inr ⟨by omega, ?_⟩
        rw [List.getElem?_append_right (by rw [R.len]; omega), R.len, e]
        rfl
    rcases at_ i a ha with ⟨a1, a2, a3⟩ | ⟨a1, a2⟩
    · rcases at_ j b hb with ⟨b1, b2, b3⟩ | ⟨b1, b2⟩
      · rw [a3, b3] at e; exact R.ap i j a b a2 b2 oa ob e
      · rw [a3, b2] at e; exact absurd e (ap i a a2 oa)
    · rcases at_ j b hb with ⟨b1, b2, b3⟩ | ⟨b1, b2⟩
      · rw [b3, a2] at e; exact absurd e.symm (ap j b b2 ob)
      · omega
  pin := fun i hi => by
    have h := R.pin i hi
    rw [List.getElem?_append_left (List.getElem?_eq_some_iff.mp h).1]
    exact h
theorem Rs.pop {x : D} {v : V} (R : Rs K Pn pl G H0 H (σ ++ [some v]) (S ++ [.o x])) (pin : ∀ i, i ∈ Pn → σ[i]? = some (some (pl i))) : Rs K Pn pl G H0 H σ S ∧ ∃ p, v = .ref p ∧ H0 p = none ∧ G p = none ∧ Apart σ S p ∧ Ro K H0 H x p := by
  have hl : σ.length = S.length := by have := R.len; rw [List.length_append, List.length_append, List.length_singleton, List.length_singleton] at this; omega
  have sg : ∀ (i : Nat) (m : M), S[i]? = some m → (S ++ [M.o x])[i]? = some m ∧ (σ ++ [some v])[i]? = σ[i]? ∧ i < S.length := fun i m h => by
    have := (List.getElem?_eq_some_iff.mp h).1
    exact ⟨by rw [List.getElem?_append_left this]; exact h, List.getElem?_append_left (by omega), this⟩
  obtain ⟨ov, h1, l, e1, h2, h3, h4⟩ := R.sl S.length (.o x) (by rw [List.getElem?_append_right (Nat.le_refl _), Nat.sub_self]; rfl)
  subst e1
  have h1' := h1
  rw [List.getElem?_append_right (by omega), show S.length - σ.length = 0 by omega] at h1
  cases h1
  refine ⟨⟨hl, R.e0, R.eg, fun i m h => ?_, fun i j a b ha hb oa ob e => ?_, pin⟩, l, rfl, h2, h3, fun i m h ho z => ?_, h4⟩
  · obtain ⟨a, b, c⟩ := sg i m h
    obtain ⟨ov, k1, k2⟩ := R.sl i m a
    rw [b] at k1
    exact ⟨ov, k1, k2⟩
  · obtain ⟨a1, a2, a3⟩ := sg i a ha
    obtain ⟨b1, b2, b3⟩ := sg j b hb
    exact R.ap i j a b a1 b1 oa ob (by rw [a2, b2, e])
  · obtain ⟨a1, a2, a3⟩ := sg i m h
    have := R.ap i S.length m (.o x) a1 (by rw [List.getElem?_append_right (Nat.le_refl _), Nat.sub_self]; rfl) ho rfl (by rw [a2, z, h1'])
    omega
theorem putBack_app : ∀ (as : List Ar) (So S : List M) (m : M), (∀ i, Ar.s i ∈ as → i < S.length) → putBack as So (S ++ [m]) = putBack as So S ++ [m]
  | [], So, S, m, _ => by cases So <;> rfl
  | a :: as, [], S, m, _ => by cases a <;> rfl
  | .d x :: as, n :: So, S, m, h => by show putBack as So (S ++ [m]) = putBack as So S ++ [m]; exact putBack_app as So S m fun i hi => h i (List.mem_cons_of_mem _ hi)
  | .b x :: as, n :: So, S, m, h => by show putBack as So (S ++ [m]) = putBack as So S ++ [m]; exact putBack_app as So S m fun i hi => h i (List.mem_cons_of_mem _ hi)
  | .s k :: as, n :: So, S, m, h => by
    show putBack as So ((S ++ [m]).set k n.nb) = putBack as So (S.set k n.nb) ++ [m]
    rw [List.set_append_left _ _ (h k (by simp))]
    exact putBack_app as So (S.set k n.nb) m fun i hi => by rw [List.length_set]; exact h i (List.mem_cons_of_mem _ hi)
theorem arM_app {as : List Ar} {x : D} (ok : arChk S as = true) : as.map (arM (S ++ [.o x])) = as.map (arM S) := by
  refine List.map_congr_left fun a ha => ?_
  have one := arOne_of ok ha
  cases a with
  | d y => rfl
  | s i =>
    obtain ⟨m, hm, _⟩ := own_of ok ha
    have hl := (List.getElem?_eq_some_iff.mp hm).1
    simp only [arM, List.getElem?_append_left hl]
  | b i =>
    have one : ((!(slots as).contains i) && match S[i]? with
          | some m => m.rdB
          | none => false) = true := one
    cases hm : S[i]? with
    | none => rw [hm, Bool.and_false] at one; cases one
    | some m =>
      have hl := (List.getElem?_eq_some_iff.mp hm).1
      simp only [arM, List.getElem?_append_left hl]
theorem evo_make {Ca : Addr} {ta : TA} {E : XK} (h : ArN K ta S fun as S1 => arChk S1 as = true ∧ C (.o (.ins Ca [] []) :: as.map (arM S1)) fun d So => d = .non ∧ ∃ x So', So = .o x :: So' ∧ R x (putBack as So' S1)) :
    EvO K (tMake Ca (spD K C) [] E ta) S R := fun Pn pl G H0 H σ Rr Q q => h Pn pl G H0 H σ Rr _ fun as S1 vs H01 H1 ⟨ok, hc⟩ g1 R1 ha x dx hx hdx ne => by
  rw [List.append_nil]
  have R2 : Rs K Pn pl G H01 (upd (upd H1 dx (.own x)) x (.ins Ca dx [])) σ S1 := R1.grow ((Ex.new hdx).trans (Ex.new (by rw [upd_ne ne.symm]; exact hx)))
  obtain ⟨a0, ag, aap⟩ := R1.own_new hx
  have R3 := R2.push a0 ag aap (x := .ins Ca [] []) ⟨dx, [], upd_same, rfl, rfl⟩
  have hlt : ∀ i, Ar.s i ∈ as → i < S1.length := fun i hi => by
    obtain ⟨m, hm, _⟩ := own_of ok hi
    exact (List.getElem?_eq_some_iff.mp hm).1
  have ok2 : arChk (S1 ++ [.o (.ins Ca [] [])]) (.s S1.length :: as) = true := by
    unfold arChk
    rw [Bool.and_eq_true, List.all_eq_true]
    have nin : S1.length ∉ slots as := fun z => Nat.lt_irrefl _ (hlt _ (mem_slots.mp z))
    refine ⟨fun a ha' => ?_, ?_⟩
    · rcases List.mem_cons.mp ha' with e | ha'
      · subst e
        simp only [arOne, List.getElem?_append_right (Nat.le_refl _), Nat.sub_self]
        rfl
      · have one := arOne_of ok ha'
        cases a with
        | d y => rfl
        | s i =>
          have hl := hlt i ha'
          obtain ⟨m, hm, ho⟩ := own_of ok ha'
          simp only [arOne, List.getElem?_append_left hl, hm]
          exact ho
        | b i =>
          have one : ((!(slots as).contains i) && match S1[i]? with
            | some m => m.rdB
            | none => false) = true := one
          cases hm : S1[i]? with
          | none => rw [hm, Bool.and_false] at one; cases one
          | some m =>
            have hl := (List.getElem?_eq_some_iff.mp hm).1
            rw [hm] at one
            rw [Bool.and_eq_true] at one
            have e1 : (slots (.s S1.length :: as)).contains i = false := by
              show (S1.length :: slots as).contains i = false
              have h1 := one.1
              rw [Bool.not_eq_true', List.contains_eq_mem] at h1
              rw [List.contains_eq_mem]
              refine decide_eq_false fun z => (List.mem_cons.mp z).elim (fun z => ?_) (of_decide_eq_false h1)
              omega
            simp only [arOne, e1, List.getElem?_append_left hl, hm, Bool.not_false, Bool.true_and]
            exact one.2
    · show ((!(slots as).contains S1.length) && ndB (slots as)) = true
      rw [nd_of ok, Bool.and_true, List.contains_eq_mem, decide_eq_false nin]
      rfl
  have hA : Arels K H01 (σ ++ [some (.ref x)]) (.s S1.length :: as) (.ref x :: vs) := by
    refine .cons ?_ ?_
    · show (σ ++ [some (V.ref x)])[S1.length]? = _
      rw [← R1.len, List.getElem?_append_right (Nat.le_refl _), Nat.sub_self]; rfl
    · have key : ∀ {bs : List Ar} {ws : List V}, Arels K H01 σ bs ws → Arels K H01 (σ ++ [some (.ref x)]) bs ws := fun {bs ws} h => by
        induction h with
        | nil => exact .nil
        | cons r t ih =>
          refine .cons ?_ ih
          rename_i a b _ _
          cases a with
          | d y => exact r
          | b i =>
            have r' : σ[i]? = _ := r
            show (σ ++ [some (V.ref x)])[i]? = _
            rw [List.getElem?_append_left (List.getElem?_eq_some_iff.mp r').1]; exact r'
          | s i =>
            have r' : σ[i]? = _ := r
            show (σ ++ [some (V.ref x)])[i]? = _
            rw [List.getElem?_append_left (List.getElem?_eq_some_iff.mp r').1]; exact r'
      exact key ha
  have eA : (Ar.s S1.length :: as).map (arM (S1 ++ [.o (.ins Ca [] [])])) = .o (.ins Ca [] []) :: as.map (arM S1) := by
    rw [List.map_cons, arM_app ok]
    simp only [arM, List.getElem?_append_right (Nat.le_refl _), Nat.sub_self]
    rfl
  refine call_core0 R3 hA ok2 (eA ▸ hc) fun d So v H0' H' ⟨ed, y, So', eS, r⟩ g R' p => ?_
  subst ed eS
  have eB : putBack (Ar.s S1.length :: as) (.o y :: So') (S1 ++ [.o (.ins Ca [] [])]) = putBack as So' S1 ++ [.o y] := by
    show putBack as So' ((S1 ++ [M.o (.ins Ca [] [])]).set S1.length (M.o y)) = _
    rw [List.set_append_right _ _ (Nat.le_refl _), Nat.sub_self]
    exact putBack_app as So' S1 (.o y) hlt
  rw [eB] at R'
  have pv : v = .non := p
  obtain ⟨R4, l, e1, e2, e3, e4, e5⟩ := R'.pop R1.pin
  cases e1
  exact ⟨pv, q y _ x H0' H' r (g1.trans g) R4 e2 e3 e4 e5⟩
end
end Dl
/-! Stores to fields and dicts; a def's body keeps its promise. -/
namespace Dl
open PySem L2 Evl PyProof.Rows

def putN (f : PySem.Str) : List PySem.Str → List PySem.Str
  | [] => [f]
  | n :: ns => if n = f then n :: ns else n :: putN f ns
def putX {α : Type} (f : PySem.Str) (d : α) : List PySem.Str → List α → List α
  | n :: ns, x :: xs => if n = f then d :: xs else x :: putX f d ns xs
  | _, _ => [d]
section
variable {K : PySem.W.Frag} {Pn : List Nat} {pl : Nat → V} {G H0 H H1 H2 : Hp} {σ : L2.St} {S : List M} {P : Post} {te tv ty : TE} {i : Nat}
theorem putF_zip (f : PySem.Str) (y : V) : ∀ (ns : List PySem.Str) (vs : List V), ns.length = vs.length → putF f y (ns.zip vs) = (putN f ns).zip (putX f y ns vs) ∧ (putN f ns).length = (putX f y ns vs).length
  | [], [], _ => ⟨rfl, rfl⟩
  | n :: ns, v :: vs, h => by
    have ih := putF_zip f y ns vs (by simpa using h)
    by_cases q : n = f
    · simp only [List.zip_cons_cons, putF, putN, putX, if_pos q, List.length_cons]
      exact ⟨trivial, by simpa using h⟩
    · simp only [List.zip_cons_cons, putF, putN, putX, if_neg q, List.length_cons]
      exact ⟨by rw [ih.1], by rw [ih.2]⟩
theorem putX_rps {f : PySem.Str} {d : D} {y : V} (p : Rp K H0 d y) : ∀ (ns : List PySem.Str) (ds : List D) (vs : List V), ns.length = vs.length → Rps K H0 ds vs → Rps K H0 (putX f d ns ds) (putX f y ns vs)
  | [], ds, [], _, h => by
    have hl := h.length
    cases ds with
    | nil => exact ⟨y, [], rfl, p, rfl⟩
    | cons _ _ => cases hl
  | n :: ns, [], v :: vs, _, h => by have hl := h.length; cases hl
  | n :: ns, x :: ds, v :: vs, hl, h => by
    obtain ⟨v', r, e, h1, h2⟩ := (show ∃ v' r, v :: vs = v' :: r ∧ Rp K H0 x v' ∧ Rps K H0 ds r by unfold Rps at h; exact h)
    cases e
    by_cases q : n = f
    · simp only [putX, if_pos q]; exact ⟨y, vs, rfl, p, h2⟩
    · simp only [putX, if_neg q]; exact ⟨v, _, rfl, h1, putX_rps p ns ds vs (by simpa using hl) h2⟩
/-- o.f = e, o an own instance -/
theorem st_fld {Ca : Addr} {f : PySem.Str} (c : Cls K Ca) (n : NoAttr K Ca f) (h : EvN K tv S fun d S1 => ∃ ns ds, S1[i]? = some (.o (.ins Ca ns ds)) ∧ ns.length < 1000 ∧ P.nx (S1.set i (.o (.ins Ca (putN f ns) (putX f d ns ds))))) :
    StN K Pn (sFld K (tVar i) tv f) S P := fun pl G H0 H σ R E a b cc e => h Pn pl G H0 H σ R _ fun d S1 v H01 H1 ⟨ns, ds, k1, k2, k3⟩ g1 R1 p1 => by
  obtain ⟨ov, h1, l, e1, h2, h3, dx, vs, h4, h5, h6⟩ := R1.sl i _ k1
  subst e1
  obtain ⟨z1, z2⟩ := putF_zip f v ns vs h5
  refine ⟨_, h1, l, Ca, dx, _, rfl, h4, c, n, by rw [List.length_zip, ← h5, Nat.min_self]; exact k2, ?_⟩
  exact a _ _ H01 _ k3 g1 (R1.write (o := .ins Ca dx (putF f v (ns.zip vs))) k1 rfl h1 ⟨dx, putX f v ns vs, by rw [z1]; exact upd_same, z2, putX_rps p1 ns ds vs h5 h6⟩)
/-- d[k] = e, d an own dict -/
def pAny {κ : Type} [DecidableEq κ] (ks : List κ) (k : κ) : Bool := ks.any fun k' => decide (k' = k)
def pK {κ : Type} [DecidableEq κ] (ks : List κ) (k : κ) : List κ := if pAny ks k = true then ks else ks ++ [k]
def pX {κ : Type} [DecidableEq κ] {α : Type} (ks : List κ) (xs : List α) (k : κ) (d : α) : List α := if pAny ks k = true then List.zipWith (fun k' x => if k' = k then d else x) ks xs else xs ++ [d]
theorem pAny_zip {κ : Type} [DecidableEq κ] (k : κ) : ∀ (ks : List κ) (vs : List V), ks.length = vs.length → ((ks.zip vs).any fun kv => decide (kv.1 = k)) = pAny ks k
  | [], [], _ => rfl
  | a :: ks, v :: vs, h => by
    unfold pAny
    rw [List.zip_cons_cons, List.any_cons, List.any_cons, pAny_zip k ks vs (by simpa using h)]
    rfl
theorem putK_zip {κ : Type} [DecidableEq κ] (ks : List κ) (vs : List V) (k : κ) (v : V) (h : ks.length = vs.length) : putK (ks.zip vs) k v = (pK ks k).zip (pX ks vs k v) ∧ (pK ks k).length = (pX ks vs k v).length := by
  unfold putK pK pX
  rw [pAny_zip k ks vs h]
  by_cases q : pAny ks k = true
  · rw [if_pos q, if_pos q, if_pos q]
    constructor
    · have key : ∀ (ks : List κ) (vs : List V), ks.length = vs.length → (ks.zip vs).map (fun kv => if kv.1 = k then (kv.1, v) else kv) = ks.zip (List.zipWith (fun k' x => if k' = k then v else x) ks vs) := fun ks => by
        induction ks with
        | nil => intro vs h; cases vs <;> rfl
        | cons a ks ih =>
          intro vs h
          cases vs with
          | nil => cases h
          | cons w vs =>
            rw [List.zip_cons_cons, List.map_cons, List.zipWith_cons_cons, List.zip_cons_cons, ih vs (by simpa using h)]
            by_cases z : a = k
            · simp [z]
            · simp [z]
      exact key ks vs h
    · rw [List.length_zipWith, ← h, Nat.min_self]
  · rw [if_neg q, if_neg q, if_neg q]
    exact ⟨by rw [List.zip_append h]; rfl, by simp [h]⟩
theorem pX_rps {κ : Type} [DecidableEq κ] {k : κ} {d : D} {v : V} (p : Rp K H0 d v) (ks : List κ) (ds : List D) (vs : List V) (h : Rps K H0 ds vs) : Rps K H0 (pX ks ds k d) (pX ks vs k v) := by
  unfold pX
  by_cases q : pAny ks k = true
  · rw [if_pos q, if_pos q]
    have key : ∀ (ks : List κ) (ds : List D) (vs : List V), Rps K H0 ds vs → Rps K H0 (List.zipWith (fun k' x => if k' = k then d else x) ks ds) (List.zipWith (fun k' x => if k' = k then v else x) ks vs) := fun ks => by
      induction ks with
      | nil => intro ds vs h; rfl
      | cons a ks ih =>
        intro ds vs h
        cases ds with
        | nil => have e : vs = [] := by unfold Rps at h; exact h
                 subst e; rfl
        | cons x ds =>
          obtain ⟨w, r, rfl, h1, h2⟩ := (show ∃ w r, vs = w :: r ∧ Rp K H0 x w ∧ Rps K H0 ds r by unfold Rps at h; exact h)
          rw [List.zipWith_cons_cons, List.zipWith_cons_cons]
          by_cases z : a = k
          · rw [if_pos z, if_pos z]; exact ⟨v, _, rfl, p, ih ds r h2⟩
          · rw [if_neg z, if_neg z]; exact ⟨w, _, rfl, h1, ih ds r h2⟩
    exact key ks ds vs h
  · rw [if_neg q, if_neg q]
    exact h.append ⟨v, [], rfl, p, rfl⟩
theorem lkD_put {κ : Type} [DecidableEq κ] (ks : List κ) (xs : List D) (k j : κ) (d : D) (h : ks.length = xs.length) : lkD (pK ks k) (pX ks xs k d) j = if k = j then some d else lkD ks xs j := by
  unfold pK pX
  by_cases q : pAny ks k = true
  · rw [if_pos q, if_pos q]
    have key : ∀ (ks : List κ) (xs : List D), ks.length = xs.length → pAny ks k = true ∨ k ≠ j → lkD ks (List.zipWith (fun k' x => if k' = k then d else x) ks xs) j = if k = j then some d else lkD ks xs j := fun ks => by
      induction ks with
      | nil =>
        intro xs h o
        rcases o with o | o
        · cases o
        · cases xs with
          | nil => simp [lkD, o]
          | cons _ _ => cases h
      | cons a ks ih =>
        intro xs h o
        cases xs with
        | nil => cases h
        | cons x xs =>
          rw [List.zipWith_cons_cons]
          by_cases z : a = j
          · subst z
            by_cases w : a = k
            · subst w; simp [lkD]
            · have w' : ¬ k = a := fun e => w e.symm
              simp [lkD, w, w']
          · simp only [lkD, if_neg z]
            refine ih xs (by simpa using h) ?_
            rcases o with o | o
            · unfold pAny at o
              rw [List.any_cons, Bool.or_eq_true] at o
              rcases o with o | o
              · right
                intro e
                have := of_decide_eq_true o
                exact z (this.trans e)
              · exact .inl o
            · exact .inr o
    exact key ks xs h (.inl q)
  · rw [if_neg q, if_neg q]
    have key : ∀ (ks : List κ) (xs : List D), ks.length = xs.length → ¬ pAny ks k = true → lkD (ks ++ [k]) (xs ++ [d]) j = if k = j then some d else lkD ks xs j := fun ks => by
      induction ks with
      | nil =>
        intro xs h o
        cases xs with
        | nil => by_cases z : k = j <;> simp [lkD, z]
        | cons _ _ => cases h
      | cons a ks ih =>
        intro xs h o
        cases xs with
        | nil => cases h
        | cons x xs =>
          have na : ¬ a = k := fun e => o (by unfold pAny; rw [List.any_cons, decide_eq_true e, Bool.true_or])
          have nt : ¬ pAny ks k = true := fun e => o (by unfold pAny at *; rw [List.any_cons, e, Bool.or_true])
          rw [List.cons_append, List.cons_append]
          by_cases z : a = j
          · have w : ¬ k = j := fun e => na (z.trans e.symm)
            simp [lkD, z, w]
          · simp only [lkD, if_neg z]
            exact ih xs (by simpa using h) nt
    exact key ks xs h q
theorem pK_len {κ : Type} [DecidableEq κ] (ks : List κ) (xs : List D) (k : κ) (d : D) (h : ks.length = xs.length) : (pK ks k).length = (pX ks xs k d).length := by
  unfold pK pX
  by_cases q : pAny ks k = true
  · rw [if_pos q, if_pos q, List.length_zipWith, ← h, Nat.min_self]
  · rw [if_neg q, if_neg q]; simp [h]
theorem st_dput (h0 : ∃ ks xs, S[i]? = some (.o (.dk ks xs))) (h : EvN K tv S fun d S1 => (∃ ks xs, S1[i]? = some (.o (.dk ks xs))) ∧ EvN K ty S1 fun y S2 => ∃ k ks xs, y = keyD k ∧ S2[i]? = some (.o (.dk ks xs)) ∧ ks.length < 100000 ∧ P.nx (S2.set i (.o (.dk (pK ks k) (pX ks xs k d))))) :
    StN K Pn (sDPut (tVar i) ty tv) S P := fun pl G H0 H σ R E a b cc e => h Pn pl G H0 H σ R _ fun d S1 v H01 H1 ⟨⟨ks0, xs0, k0⟩, hy⟩ g1 R1 p1 => by
  obtain ⟨ov, h1, l, e1, _, _, vs0, h4, _⟩ := R1.sl i _ k0
  subst e1
  refine ⟨_, h1, hy Pn pl G H01 H1 σ R1 _ fun y S2 w H02 H2 ⟨k, ks, xs, ey, k1, k2, k3⟩ g2 R2 p2 => ?_⟩
  subst ey
  obtain ⟨ov', h1', l', e1', h2', h3', vs, h4', h5', h6'⟩ := R2.sl i _ k1
  subst e1'
  rw [h1] at h1'
  cases h1'
  have ew : w = kV k := by
    cases k with
    | inl n => exact p2
    | inr n => exact p2
  subst ew
  obtain ⟨z1, z2⟩ := putK_zip ks vs k v h5'
  refine ⟨l, _, rfl, DPut.k h4' (by rw [List.length_zip, ← h5', Nat.min_self]; exact sz_lt k2), ?_⟩
  exact a _ _ H02 _ k3 (g1.trans g2) (R2.write (o := .dK (putK (ks.zip vs) k v)) k1 rfl h1 ⟨pX ks vs k v, by rw [z1]; exact upd_same, z2, pX_rps (Rp.mono g2.ex _ _ p1) ks xs vs h6'⟩)
/-! ### a def's body -/
/-- the arguments behind: the pinned slots -/
def outM (Pn : List Nat) : Nat → Nat → List M → List M
  | _, 0, _ => []
  | i, n + 1, [] => []
  | i, n + 1, m :: S => (if Pn.contains i then m else .no) :: outM Pn (i + 1) n S
theorem outM_len (Pn : List Nat) : ∀ (i n : Nat) (S : List M), n ≤ S.length → (outM Pn i n S).length = n
  | i, 0, S, _ => rfl
  | i, n + 1, [], h => by cases h
  | i, n + 1, m :: S, h => by unfold outM; rw [List.length_cons, outM_len Pn (i + 1) n S (by simpa using h)]
theorem outM_get (Pn : List Nat) : ∀ (i n j : Nat) (S : List M) (m : M), (outM Pn i n S)[j]? = some m → m = .no ∨ (S[j]? = some m ∧ i + j ∈ Pn)
  | i, 0, j, S, m, h => by cases h
  | i, n + 1, j, [], m, h => by cases h
  | i, n + 1, 0, a :: S, m, h => by
    unfold outM at h
    have e := Option.some.inj (show some (if Pn.contains i then a else M.no) = some m from h)
    by_cases q : Pn.contains i = true
    · rw [if_pos q] at e
      refine .inr ⟨by rw [← e]; rfl, ?_⟩
      rw [List.contains_eq_mem] at q
      exact of_decide_eq_true q
    · rw [if_neg q] at e; exact .inl e.symm
  | i, n + 1, j + 1, a :: S, m, h => by
    unfold outM at h
    rcases outM_get Pn (i + 1) n j S m h with e | ⟨e1, e2⟩
    · exact .inl e
    · exact .inr ⟨e1, by rw [Nat.add_assoc, Nat.add_comm 1 j] at e2; exact e2⟩
def slot0 (N : List PySem.Str) (S : List M) : List M := S ++ List.replicate (N.length - S.length) .no
theorem okD {P : Program} {w : World} {mg : PySem.Str → Option Value} {base : Heap} {x qual : PySem.Str} {st : Stmt} {f : Addr} {fd : FuncData} {N ps : List PySem.Str} {k : Nat} {C : Ct} (F : Fun K x qual st f fd) (Sc : FnScope N ps (defScope st))
    (hlen : ∀ S R, C S R → S.length = ps.length)
    (hbody : ∀ (cdv : Value) (A : Around) (outer : List Env) (s : Shared) (H : Hp) (E : XK), Room k (A.deeper (envOfC qual (defScope st) s.heap.objs.size f cdv)) →
      ∃ t, PSs (cxOf CX0 P w K mg base N qual (defScope st) f cdv A outer s H E).nox (defBody st) t ∧
        ∀ S R, C S R → ∃ Pn : List Nat, (∀ i ∈ Pn, i < ps.length) ∧ (∀ i ∈ Pn, ∀ m, S[i]? = some m → m.own = true) ∧ StN K Pn t (slot0 N S) ⟨fun S' => ps.length ≤ S'.length ∧ R .non (outM Pn 0 ps.length S'), fun d S' => ps.length ≤ S'.length ∧ R d (outM Pn 0 ps.length S'), fun _ => False, fun _ => False⟩) :
    FnOk P w K mg base CX0 (k + 1) f fd ps (spD K C) := by
  refine F.ok Sc (fun vs H Q E h => ?_) (fun cdv A outer s H vs Q E hr h => ?_)
  · obtain ⟨S, R, G, H0, hc, R0, _⟩ := h
    rw [← hlen S R hc, ← R0.len, List.length_map]
  · obtain ⟨S, R, G, H0, hc, R0, q⟩ := h
    obtain ⟨t, ht, hb⟩ := hbody cdv A outer s H E hr
    obtain ⟨Pn, hp, hown, hst⟩ := hb S R hc
    refine ⟨t, ht, ?_⟩
    have hS := hlen S R hc
    have hvl : vs.length = S.length := by have := R0.len; rwa [List.length_map] at this
    have hpn : ps.length ≤ N.length := by have := congrArg List.length Sc.pre; rw [List.length_take] at this; omega
    have left : ∀ i, i < vs.length → (L2.start N vs)[i]? = (vs.map some)[i]? := fun i hi => by
      unfold L2.start
      rw [List.getElem?_append_left (by rw [List.length_map]; exact hi)]
    have R1 : Rs K Pn (fun i => vs.getD i .non) G H0 H (L2.start N vs) (slot0 N S) := by
      refine ⟨?_, R0.e0, R0.eg, fun i m h => ?_, fun i j a b ha hb oa ob e => ?_, fun i hi => ?_⟩
      · unfold L2.start slot0
        rw [List.length_append, List.length_append, List.length_map, List.length_replicate, List.length_replicate, hvl]
      · by_cases hi : i < S.length
        · unfold slot0 at h
          rw [List.getElem?_append_left hi] at h
          rw [left i (by omega)]
          exact R0.sl i m h
        · unfold slot0 at h
          rw [List.getElem?_append_right (by omega), List.getElem?_replicate] at h
          split at h
          · rename_i hlt
            cases h
            unfold L2.start
            rw [List.getElem?_append_right (by rw [List.length_map]; omega), List.length_map, hvl, List.getElem?_replicate, if_pos hlt]
            exact ⟨none, rfl, trivial⟩
          · cases h
      · have key : ∀ (i : Nat) (m : M), (slot0 N S)[i]? = some m → m.own = true → i < S.length ∧ S[i]? = some m := fun i m h ho => by
          by_cases hi : i < S.length
          · unfold slot0 at h
            rw [List.getElem?_append_left hi] at h
            exact ⟨hi, h⟩
          · unfold slot0 at h
            rw [List.getElem?_append_right (by omega), List.getElem?_replicate] at h
            split at h
            · cases h; cases ho
            · cases h
        obtain ⟨i1, i2⟩ := key i a ha oa
        obtain ⟨j1, j2⟩ := key j b hb ob
        rw [left i (by omega), left j (by omega)] at e
        exact R0.ap i j a b i2 j2 oa ob e
      · have hi' := hp i hi
        rw [left i (by omega), List.getElem?_map, List.getElem?_eq_getElem (by omega)]
        show some (some _) = some (some _)
        rw [List.getD_eq_getElem?_getD, List.getElem?_eq_getElem (show i < vs.length by omega)]
        rfl
    have back : ∀ (S' : List M) (σ' : L2.St) (H0' H' : Hp), Rs K Pn (fun i => vs.getD i .non) G H0' H' σ' S' → ps.length ≤ S'.length → Rs K [] noV G H0' H' (vs.map some) (outM Pn 0 ps.length S') := fun S' σ' H0' H' R' hl => by
      have at_ : ∀ (i : Nat) (m : M), (outM Pn 0 ps.length S')[i]? = some m → m = .no ∨ (S'[i]? = some m ∧ i ∈ Pn ∧ σ'[i]? = (vs.map some)[i]?) := fun i m h => by
        rcases outM_get Pn 0 ps.length i S' m h with e | ⟨e1, e2⟩
        · exact .inl e
        · rw [Nat.zero_add] at e2
          have hi' := hp i e2
          refine .inr ⟨e1, e2, ?_⟩
          rw [R'.pin i e2, List.getElem?_map, List.getElem?_eq_getElem (show i < vs.length by omega)]
          show some (some _) = some (some _)
          rw [List.getD_eq_getElem?_getD, List.getElem?_eq_getElem (show i < vs.length by omega)]
          rfl
      refine ⟨by rw [List.length_map, outM_len Pn 0 _ _ hl]; omega, R'.e0, R'.eg, fun i m h => ?_, fun i j a b ha hb oa ob e => ?_, fun i hi => by cases hi⟩
      · have hi : i < vs.length := by
          have := (List.getElem?_eq_some_iff.mp h).1
          rw [outM_len Pn 0 _ _ hl] at this
          omega
        rcases at_ i m h with e | ⟨e1, e2, e3⟩
        · subst e
          exact ⟨_, List.getElem?_eq_getElem (by rw [List.length_map]; exact hi), trivial⟩
        · obtain ⟨ov, k1, k2⟩ := R'.sl i m e1
          rw [e3] at k1
          exact ⟨ov, k1, k2⟩
      · rcases at_ i a ha with z | ⟨a1, a2, a3⟩
        · subst z; cases oa
        · rcases at_ j b hb with z | ⟨b1, b2, b3⟩
          · subst z; cases ob
          · exact R'.ap i j a b a1 b1 oa ob (by rw [a3, b3, e])
    refine hst (fun i => vs.getD i .non) G H0 H (L2.start N vs) R1 { nx := fun _ H' => Q .non H', rt := Q } ?_ ?_ ?_ ?_
    · exact fun S' σ' H0' H' ⟨hl, r⟩ g' R' => q .non _ .non H0' H' r g' (back S' σ' H0' H' R' hl) rfl
    · exact fun d S' σ' v H0' H' ⟨hl, r⟩ g' R' p => q d _ v H0' H' r g' (back S' σ' H0' H' R' hl) p
    · exact fun _ _ _ _ z => z.elim
    · exact fun _ _ _ _ z => z.elim
end
end Dl
/-! Defs, methods, classes of a text as they may be called; truth; what the terms of gen.py name. -/
namespace Dl
open PySem L2 Evl PyProof.Rows

/-! ### a def that stands in the text; one that keeps a promise -/
structure FunAt (K : PySem.W.Frag) (mg : PySem.Str → Option Value) (x : PySem.Str) (st : Stmt) (ps : List PySem.Str) : Prop where
  ex : ∃ f fd, mg x = some (.ref f) ∧ Fun K x x st f fd ∧ Binds K fd ps []
structure MethAt (K : PySem.W.Frag) (Ca : Addr) (m qual : PySem.Str) (st : Stmt) (ps : List PySem.Str) : Prop where
  ex : ∃ f fd, Meth K Ca m f ∧ Fun K m qual st f fd ∧ Binds K fd ps []
structure InitAt (K : PySem.W.Frag) (mg : PySem.Str → Option Value) (x : PySem.Str) (Ca : Addr) (m qual : PySem.Str) (st : Stmt) (ps : List PySem.Str) : Prop where
  ex : ∃ f fd, Mk K Ca f ∧ mg x = some (.ref Ca) ∧ Fun K m qual st f fd ∧ Binds K fd ps []
structure Cal (P : Program) (w : World) (K : PySem.W.Frag) (mg : PySem.Str → Option Value) (base : Heap) (x : PySem.Str) (lev : Nat) (ps : List PySem.Str) (sp : Sp) : Prop where
  ex : ∃ f fd, mg x = some (.ref f) ∧ PySem.W.keepIn K (.ref f) = true ∧ Binds K fd ps [] ∧ FnOk P w K mg base CX0 lev f fd ps sp
structure MCal (P : Program) (w : World) (K : PySem.W.Frag) (mg : PySem.Str → Option Value) (base : Heap) (Ca : Addr) (m : PySem.Str) (lev : Nat) (ps : List PySem.Str) (sp : Sp) : Prop where
  ex : ∃ f fd, Meth K Ca m f ∧ Binds K fd ps [] ∧ FnOk P w K mg base CX0 lev f fd ps sp
structure ICal (P : Program) (w : World) (K : PySem.W.Frag) (mg : PySem.Str → Option Value) (base : Heap) (x : PySem.Str) (Ca : Addr) (lev : Nat) (ps : List PySem.Str) (sp : Sp) : Prop where
  ex : ∃ f fd, Mk K Ca f ∧ mg x = some (.ref Ca) ∧ Binds K fd ps [] ∧ FnOk P w K mg base CX0 lev f fd ps sp
section
variable {X : Cx} {x m : PySem.Str} {lev : Nat} {ps : List PySem.Str} {sp : Sp} {Ca : Addr} {e o : Expr} {es : List Expr} {ta : TE} {t : TA} {p apos pos : Pos}
theorem pe_cal (c : Cal X.prog X.w X.K X.mg X.base x lev ps sp) (hr : Room lev X.A) (hg : Gl X x) (ha : PA X (e :: es) t) (hdb : (x == ("__debug__" : Str)) = false := by decide)
    (he : starEach (e :: es) X.env = (false, eval e X.env) :: starEach es X.env := by rfl) (hpl : (backTo pos (starEach es X.env)).any (·.1) = false := by rfl) : PE X (.Call (.Name x p) (e :: es) [] pos) (tCall sp [] E0 t) := by
  obtain ⟨f, fd, h1, h2, h3, h4⟩ := c.ex
  exact pe_call h4 hr hg h1 h2 h3 .nil pass0 ha hdb he hpl
theorem pe_cal0 (c : Cal X.prog X.w X.K X.mg X.base x lev ps sp) (hr : Room lev X.A) (hg : Gl X x) (hdb : (x == ("__debug__" : Str)) = false := by decide) : PE X (.Call (.Name x p) [] [] pos) (tCall sp [] E0 tNil) := by
  obtain ⟨f, fd, h1, h2, h3, h4⟩ := c.ex
  exact pe_call0 h4 hr hg h1 h2 h3 .nil pass0 hdb
theorem pe_ical (c : ICal X.prog X.w X.K X.mg X.base x Ca lev ps sp) (hr : Room (lev + 1) X.A) (hg : Gl X x) (ha : PA X (e :: es) t) (hdb : (x == ("__debug__" : Str)) = false := by decide)
    (he : starEach (e :: es) X.env = (false, eval e X.env) :: starEach es X.env := by rfl) (hpl : (backTo pos (starEach es X.env)).any (·.1) = false := by rfl) : PE X (.Call (.Name x p) (e :: es) [] pos) (tMake Ca sp [] E0 t) := by
  obtain ⟨f, fd, h1, h2, h3, h4⟩ := c.ex
  exact pe_make h1 h4 hr hg h2 h3 .nil pass0 ha hdb he hpl
theorem pe_mcal {pl : Sem Bool} (he : PE X o ta) (cl : Cls X.K Ca) (c : MCal X.prog X.w X.K X.mg X.base Ca m lev ps sp) (hr : Room lev X.A) (ha : PA X (e :: es) t)
    (hst : starEach (e :: es) X.env = (false, eval e X.env) :: starEach es X.env := by rfl) (hpl : (backTo pos (starEach es X.env)).any (·.1) = false := by rfl)
    (ht : eval (.Call (.Attribute o m apos) (e :: es) [] pos) X.env = (do
      let ov ← eval o X.env
      standAt apos.atName
      let (f, first) ← holding [ov] (getMethod ov m pl)
      callWith pos f first (backTo pos (starEach (e :: es) X.env)) (backToKw pos (keywordEach [] X.env))) := by rfl) :
    PE X (.Call (.Attribute o m apos) (e :: es) [] pos) (tMeth Ca m sp [] E0 ta t) := by
  obtain ⟨f, fd, h1, h3, h4⟩ := c.ex
  exact pe_meth he cl h1 h4 hr h3 .nil pass0 ha hst hpl ht
theorem pe_mcal0 {pl : Sem Bool} (he : PE X o ta) (cl : Cls X.K Ca) (c : MCal X.prog X.w X.K X.mg X.base Ca m lev ps sp) (hr : Room lev X.A)
    (ht : eval (.Call (.Attribute o m apos) [] [] pos) X.env = (do
      let ov ← eval o X.env
      standAt apos.atName
      let (f, first) ← holding [ov] (getMethod ov m pl)
      callWith pos f first (backTo pos (starEach [] X.env)) (backToKw pos (keywordEach [] X.env))) := by rfl) :
    PE X (.Call (.Attribute o m apos) [] [] pos) (tMeth Ca m sp [] E0 ta tNil) := by
  obtain ⟨f, fd, h1, h3, h4⟩ := c.ex
  exact pe_meth0 he cl h1 h4 hr h3 .nil pass0 ht
/-- truth of a value -/
def tTr (K : PySem.W.Frag) (ta : TE) : TT := fun σ H Q => ta σ H fun x H' => ∃ k, TruV K x H' k ∧ Q k H'
theorem pt_tr {a : Expr} {ta : TE} (ha : PE X a ta) (he : ∀ whole, isTrue a X.env whole = (do let v ← whole; standAt a.pos; holding [v] (truthy v))) : PT X a (tTr X.K ta) := pt_truth ha he
end
def truD : D → Option Bool
  | .non => some false
  | .bl b => some b
  | .int i => some (i != 0)
  | .lst xs => some (!xs.isEmpty)
  | .tup xs => some (!xs.isEmpty)
  | .dk ks _ => some (!ks.isEmpty)
  | _ => none
section
variable {K : PySem.W.Frag} {S : List M} {te : TE} {d : D} {b : Bool}
theorem isEmpty_len {α β : Type} : ∀ {xs : List α} {ys : List β}, xs.length = ys.length → xs.isEmpty = ys.isEmpty
  | [], [], _ => rfl
  | _ :: _, _ :: _, _ => rfl
  | [], _ :: _, h => by cases h
  | _ :: _, [], h => by cases h
theorem truV_of {H0 H : Hp} {v : V} (h : truD d = some b) (r : Rb K H0 H d v) (e : Ex H0 H) : TruV K v H b := by
  cases d <;> simp only [truD, Option.some.injEq] at h <;> first
    | (cases h; done)
    | skip
  · rw [r.non, ← h]; rfl
  · rw [r.bl, ← h]; rfl
  · rw [r.int, ← h]; rfl
  · obtain ⟨a, vs, rfl, _, h1, h2⟩ := r.tup e
    exact .inr (.inl ⟨vs, st_of h1, by rw [← h, isEmpty_len h2.length]⟩)
  · obtain ⟨a, vs, rfl, h1, h2⟩ := r.lst e
    exact .inl ⟨vs, sq_of h1, by rw [← h, isEmpty_len h2.length]⟩
  · obtain ⟨a, vs, rfl, h1, hl, h2⟩ := r.dk e
    refine .inr (.inr ⟨_, h1, ?_⟩)
    rw [← h]
    congr 1
    exact isEmpty_len (by rw [List.length_zip]; omega)
theorem tpp_tr (h : EvB K te S d) (hb : truD d = some b) : TpP K (tTr K te) S b := fun Pn pl G H0 H σ Rr Q q => h Pn pl G H0 H σ Rr _ fun v H0' H' g e R' p => ⟨b, truV_of hb p R'.e0, q H0' H' g e R'⟩
theorem tpn_tr {R : Bool → List M → Prop} (h : EvN K te S fun d S1 => ∃ b, truD d = some b ∧ R b S1) : TpN K (tTr K te) S R := fun Pn pl G H0 H σ Rr Q q => h Pn pl G H0 H σ Rr _ fun d S' v H0' H' ⟨b, hb, r⟩ g R' p => ⟨b, truV_of hb (.inl p) R'.e0, q b S' H0' H' r g R'⟩
theorem tpp_yes : TpP K tYes S true := fun Pn pl G H0 H σ Rr Q q => q H0 H (Gr.refl _ _) (Ex.refl _) Rr
theorem tpn_yes {R : Bool → List M → Prop} (r : R true S) : TpN K tYes S R := tpp_yes.n r
theorem tpp_chain {r r' : R2} {ta tb tc : TE} {x y z : D} {p q : Bool} (ha : EvB K ta S x) (hb : EvB K tb S y) (h1 : V2P K r x y (.bl p)) (hc : p = true → EvB K tc S z) (h2 : p = true → V2P K r' y z (.bl q)) : TpP K (tTest (tChain r r' ta tb tc)) S (p && q) := tpp_test (evp_chain ha hb h1 hc h2)
end
section
variable {P : Program} {w : World} {K : PySem.W.Frag} {mg : PySem.Str → Option Value} {base : Heap} {x m qual : PySem.Str} {Ca : Addr} {st : Stmt} {N ps : List PySem.Str} {k : Nat} {C : Ct}
abbrev BodyOk (P : Program) (w : World) (K : PySem.W.Frag) (mg : PySem.Str → Option Value) (base : Heap) (qual : PySem.Str) (st : Stmt) (N ps : List PySem.Str) (k : Nat) (C : Ct) : Prop :=
  ∀ (f : Addr) (cdv : Value) (A : Around) (outer : List Env) (s : Shared) (H : Hp) (E : XK), Room k (A.deeper (envOfC qual (defScope st) s.heap.objs.size f cdv)) →
      ∃ t, PSs (cxOf CX0 P w K mg base N qual (defScope st) f cdv A outer s H E).nox (defBody st) t ∧
        ∀ S R, C S R → ∃ Pn : List Nat, (∀ i ∈ Pn, i < ps.length) ∧ (∀ i ∈ Pn, ∀ m, S[i]? = some m → m.own = true) ∧ StN K Pn t (slot0 N S) ⟨fun S' => ps.length ≤ S'.length ∧ R .non (outM Pn 0 ps.length S'), fun d S' => ps.length ≤ S'.length ∧ R d (outM Pn 0 ps.length S'), fun _ => False, fun _ => False⟩
theorem okC (F : FunAt K mg x st ps) (Sc : FnScope N ps (defScope st)) (hlen : ∀ S R, C S R → S.length = ps.length) (hb : BodyOk P w K mg base x st N ps k C) : Cal P w K mg base x (k + 1) ps (spD K C) := by
  obtain ⟨f, fd, h1, h2, h3⟩ := F.ex
  exact ⟨f, fd, h1, h2.kp, h3, okD h2 Sc hlen (hb f)⟩
theorem okM (F : MethAt K Ca m qual st ps) (Sc : FnScope N ps (defScope st)) (hlen : ∀ S R, C S R → S.length = ps.length) (hb : BodyOk P w K mg base qual st N ps k C) : MCal P w K mg base Ca m (k + 1) ps (spD K C) := by
  obtain ⟨f, fd, h1, h2, h3⟩ := F.ex
  exact ⟨f, fd, h1, h3, okD h2 Sc hlen (hb f)⟩
theorem okI (F : InitAt K mg x Ca m qual st ps) (Sc : FnScope N ps (defScope st)) (hlen : ∀ S R, C S R → S.length = ps.length) (hb : BodyOk P w K mg base qual st N ps k C) : ICal P w K mg base x Ca (k + 1) ps (spD K C) := by
  obtain ⟨f, fd, h1, h2, h3, h4⟩ := F.ex
  exact ⟨f, fd, h1, h2, h4, okD h3 Sc hlen (hb f)⟩
theorem Cal.mono {sp : Sp} {j k : Nat} (c : Cal P w K mg base x j ps sp) (h : j ≤ k) : Cal P w K mg base x k ps sp := by
  obtain ⟨f, fd, h1, h2, h3, h4⟩ := c.ex
  exact ⟨f, fd, h1, h2, h3, h4.mono h⟩
theorem MCal.mono {sp : Sp} {j k : Nat} (c : MCal P w K mg base Ca m j ps sp) (h : j ≤ k) : MCal P w K mg base Ca m k ps sp := by
  obtain ⟨f, fd, h1, h2, h3⟩ := c.ex
  exact ⟨f, fd, h1, h2, h3.mono h⟩
theorem hu1_of {A : Around} {k : Nat} (hr : Room k A) : A.units + 1 < cLine := by have := hr.un; omega
theorem hu65_of {A : Around} {k : Nat} (hr : Room k A) : A.units + 65 < cLine := by have := hr.un; omega
theorem hu64_of {A : Around} {k : Nat} (hr : Room k A) : A.units + 64 < cLine := by have := hr.un; omega
end
end Dl
namespace Dl
open PySem L2 Evl PyProof.Rows
/-! ### the rules with the written part named -/
section
variable {X : Cx} {K : PySem.W.Frag} {a b e l tg : Expr} {es : List Expr} {ta tb te tl : TE} {t : TA} {p pos apos tpos : Pos} {f : PySem.Str}
theorem k_sub (hK : X.K = K) (hu : X.A.units + 1 < cLine) (ha : PE X a ta) (hb : PE X b tb) (hs : PlainIx b) (hs2 : NoSl b) : PE X (.Subscript a b pos) (orE (tOp (rIx K) ta tb) (tDGet ta tb)) := by subst hK; exact pe_sub hu ha hb hs hs2
theorem k_in (hK : X.K = K) (hu : X.A.units + 65 < cLine) (ha : PE X a ta) (hb : PE X b tb) (hm : behindInMarks .In b = false) : PE X (.Compare a [.In] [b] pos) (orE (tOp (inU K) ta tb) (tDIn ta tb)) := by subst hK; exact pe_inU hu ha hb hm hm
theorem k_nin (hK : X.K = K) (hu : X.A.units + 65 < cLine) (ha : PE X a ta) (hb : PE X b tb) (hm : behindInMarks .NotIn b = false) : PE X (.Compare a [.NotIn] [b] pos) (orE (tOp (ninU K) ta tb) (tDNotIn ta tb)) := by subst hK; exact pe_ninU hu ha hb hm hm
theorem k_add (hK : X.K = K) (ha : PE X a ta) (hb : PE X b tb) : PE X (.BinOp a .Add b pos) (tOp (addU K) ta tb) := by subst hK; exact pe_op or_addU ha hb
theorem k_eq (hK : X.K = K) (hu : X.A.units + 64 < cLine) (ha : PE X a ta) (hb : PE X b tb) : PE X (.Compare a [.Eq] [b] pos) (tOp (rEqD K) ta tb) := by subst hK; exact pe_cmpR (op_eqD hu) ha hb (nomark _)
theorem k_ne (hK : X.K = K) (hu : X.A.units + 64 < cLine) (ha : PE X a ta) (hb : PE X b tb) : PE X (.Compare a [.NotEq] [b] pos) (tOp (rNeD K) ta tb) := by subst hK; exact pe_cmpR (op_neD hu) ha hb (nomark _)
theorem k_fld (hK : X.K = K) (he : PE X e ta) (hb : attributeBase e f X.env (eval e X.env) = eval e X.env) : PE X (.Attribute e f pos) (tFld K ta f) := by subst hK; exact pe_fld he hb
theorem k_sq (hK : X.K = K) (hl : PE X l tl) : PI X tg l (iSq K tl) := by subst hK; exact pi_sq hl
theorem k_enum (hK : X.K = K) {elts : List Expr} {kk : Nat} (hg : Gl X "enumerate") (hm : X.mg "enumerate" = none) (ha : PA X [e] t) (hs : starEach [e] X.env = [(false, eval e X.env)]) : PI X (.Tuple elts kk tpos) (.Call (.Name "enumerate" p) [e] [] pos) (iEnum K t) := by subst hK; exact pi_enum hg hm ha hs
theorem k_tup (hK : X.K = K) {elts : List Expr} {k n : Nat} {u : TGs} (hc : X.calm = true) (ht : PGs X elts u) (hn : (assignEach elts X.env).length = n) (hst : (assignEach elts X.env).findIdx? (·.1) = none) : PG X (.Tuple elts k pos) (gTup K n u) := by subst hK; exact pg_tup hc ht hn hst
theorem k_slice (hK : X.K = K) {lo hi : Option Expr} {p2 : Pos} {tl th : TO} (he : PE X e te) (hl : PO X lo tl) (hu : PO X hi th) : PE X (.Subscript e (.Slice lo hi none p2) pos) (tSl (slU K) te tl th) := by subst hK; exact pe_slice sr_slU he hl hu
theorem k_tupleOf (hK : X.K = K) (hg : Gl X "tuple") (hm : X.mg "tuple" = none) (ha : PE X a ta) (na : starEach [a] X.env = (false, eval a X.env) :: starEach [] X.env) : PE X (.Call (.Name "tuple" p) [a] [] pos) (tThen ta (kTup K)) := by subst hK; exact pe_tupleOf hg hm ha na
theorem k_tr (hK : X.K = K) (ha : PE X a ta) (he : ∀ whole, isTrue a X.env whole = (do let v ← whole; standAt a.pos; holding [v] (truthy v))) : PT X a (tTr K ta) := by subst hK; exact pt_tr ha he
theorem kr_len (hK : X.K = K) : CallR X (.builtin "len") (lenU K) := by subst hK; exact cr_lenU
theorem kr_sum (hK : X.K = K) (hc : X.calm = true) : CallR X (.builtin "sum") (rSum K) := by subst hK; exact cr_sum hc
theorem kr_min (hK : X.K = K) (hc : X.calm = true) : CallR X (.builtin "min") (rMin K) := by subst hK; exact cr_min hc
theorem kr_max (hK : X.K = K) (hc : X.calm = true) : CallR X (.builtin "max") (rMax K) := by subst hK; exact cr_max hc
theorem kr_any (hK : X.K = K) (hc : X.calm = true) : CallR X (.builtin "any") (rAny K) := by subst hK; exact cr_any hc
theorem kr_all (hK : X.K = K) (hc : X.calm = true) : CallR X (.builtin "all") (rAll K) := by subst hK; exact cr_all hc
theorem kr_isi (hK : X.K = K) : CallR X (.builtin "isinstance") (rIsi K) := by subst hK; exact call_isi
theorem kr_sortI (hK : X.K = K) : CallR X (.builtin "sorted") (rSortedI K) := by subst hK; exact cr_sortedI
theorem kr_list (hK : X.K = K) : CallR X (.type "list") (listSq K) := by subst hK; exact cr_listSq
end
section
variable {X : Cx} {x : PySem.Str} {p pos apos : Pos} {e o : Expr} {es : List Expr} {t : TA} {to ta : TE} {id T name : String} {r : List V → Hp → VK → Prop}
theorem k_callB (hc : CallR X (.builtin id) r) (hg : Gl X x) (hm : X.mg x = none) (hv : bootBuiltins x = some (.builtin id)) (ha : PA X (e :: es) t) (hn : x ≠ "__name__") (hdb : (x == ("__debug__" : PySem.Str)) = false)
    (he : starEach (e :: es) X.env = (false, eval e X.env) :: starEach es X.env) (hpl : (backTo pos (starEach es X.env)).any (·.1) = false) : PE X (.Call (.Name x p) (e :: es) [] pos) (tCB r t) := pe_callB hc hg hm hv ha hn hdb he hpl
theorem k_callTy (hc : CallR X (.type T) r) (hg : Gl X x) (hm : X.mg x = none) (hv : bootBuiltins x = some (.type T)) (ha : PA X (e :: es) t) (hn : x ≠ "__name__") (hdb : (x == ("__debug__" : PySem.Str)) = false)
    (he : starEach (e :: es) X.env = (false, eval e X.env) :: starEach es X.env) (hpl : (backTo pos (starEach es X.env)).any (·.1) = false) : PE X (.Call (.Name x p) (e :: es) [] pos) (tCB r t) := pe_callTy hc hg hm hv ha hn hdb he hpl
end
end Dl
namespace Dl
open PySem L2 Evl PyProof.Rows
section
variable {K : PySem.W.Frag} {S : List M} {vs : List Nat}
theorem ro_rd {m : M} {x : D} (h : m.rd x) : m.ro.rd x := by cases m <;> first | exact h | exact h.elim
/-- a comprehension without a test -/
theorem evf_lcA {α : Type} {xs : List α} {f r : α → D} {wi : TI} {g : TG} {te : TE} (wk : WkB K wi S (xs.map f)) (hl : xs.length ≤ 50000)
    (ht : ∀ a, a ∈ xs → ∃ S2, GtP K g vs ((wipeM S vs).map M.ro) (f a) S2 ∧ EvP K te S2 (r a)) : EvF K (tLc wi g tYes te vs) S (.lst (xs.map r)) := by
  have h := evf_lc (p := fun _ => true) wk hl (tt := tYes) (te := te) (r := r) (g := g) (vs := vs) fun a ha => by
    obtain ⟨S2, h1, h2⟩ := ht a ha
    exact ⟨S2, h1, tpp_yes, fun _ => h2⟩
  rwa [List.filter_eq_self.mpr fun _ _ => rfl] at h
theorem lk_fun (U : List Int) (g : Int → D) {a : Int} (h : a ∈ U) : lkD (U.map fun t => (Sum.inl t : Key)) (U.map g) (Sum.inl a) = some (g a) := by
  induction U with
  | nil => cases h
  | cons u U ih =>
    rw [List.map_cons, List.map_cons]
    by_cases q : u = a
    · subst q; simp [lkD]
    · have q' : ¬ (Sum.inl u : Key) = Sum.inl a := fun z => q (Sum.inl.inj z)
      simp only [lkD, if_neg q']
      exact ih ((List.mem_cons.mp h).resolve_left fun z => q z.symm)
end
end Dl
namespace Dl
open PySem L2 Evl PyProof.Rows
section
variable {K : PySem.W.Frag} {Pn : List Nat} {S : List M} {P : Post} {te ta tb : TE} {tt : TT} {t u : TS} {i : Nat} {x d : D}
theorem st_setP (hi : i ∉ Pn) (h : EvP K te S d) (k : P.nx (S.set i (.d d))) : StN K Pn (tAsg te (gName i)) S P := st_set hi (h.n k)
theorem st_setF (hi : i ∉ Pn) (h : EvF K te S d) (k : P.nx (S.set i (.o d))) : StN K Pn (tAsg te (gName i)) S P := st_seto hi (h.o k)
theorem st_ifP {b : Bool} (h : TpP K tt S b) (h1 : b = true → StN K Pn t S P) (h2 : b = false → StN K Pn u S P) : StN K Pn (tIfS tt t u) S P := st_if (h.n ⟨h1, h2⟩)
theorem st_retP (h : EvP K te S d) (k : P.rt d S) : StN K Pn (tRet te) S P := st_ret (h.n k)
theorem evp_dini {i : Int} {ks : List Key} {xs : List D} (ha : EvB K ta S (.int i)) (hb : EvB K tb S (.dk ks xs)) : EvP K (orE (tOp (inU K) ta tb) (tDIn ta tb)) S (.bl (lkD ks xs (Sum.inl i)).isSome) := evp_din (k := Sum.inl i) ha hb
def addKey (met : List Int) (t : Int) : List Int := if t ∈ met then met else met ++ [t]
theorem mem_addKey {met : List Int} {t x : Int} : x ∈ addKey met t ↔ x ∈ met ∨ x = t := by
  unfold addKey
  split
  · exact ⟨fun h => .inl h, fun h => h.elim id fun e => by rw [e]; assumption⟩
  · simp
theorem nd_addKey {met : List Int} {t : Int} (h : met.Nodup) : (addKey met t).Nodup := by
  unfold addKey
  split
  · exact h
  · rename_i q
    rw [List.nodup_append]
    exact ⟨h, by simp, fun a ha b hb e => by rw [List.mem_singleton] at hb; subst e; rw [hb] at ha; exact q ha⟩
abbrev kI (ns : List Int) : List Key := ns.map fun t => Sum.inl t
theorem pAny_kI (ns : List Int) (t : Int) : pAny (kI ns) (Sum.inl t : Key) = decide (t ∈ ns) := by
  induction ns with
  | nil => rfl
  | cons n ns ih =>
    unfold pAny at *
    rw [show kI (n :: ns) = Sum.inl n :: kI ns from rfl, List.any_cons, ih]
    by_cases q : n = t
    · subst q; simp
    · have q' : ¬ (Sum.inl n : Key) = Sum.inl t := fun z => q (Sum.inl.inj z)
      rw [decide_eq_false q', Bool.false_or]
      exact decide_eq_decide.mpr ⟨fun h => List.mem_cons_of_mem _ h, fun h => (List.mem_cons.mp h).elim (fun z => absurd z.symm q) id⟩
theorem pK_kI (ns : List Int) (t : Int) : pK (kI ns) (Sum.inl t : Key) = kI (addKey ns t) := by
  unfold pK addKey
  rw [pAny_kI]
  by_cases q : t ∈ ns
  · rw [if_pos (decide_eq_true q), if_pos q]
  · rw [if_neg (by rw [decide_eq_false q]; exact Bool.false_ne_true), if_neg q]
    simp
theorem pX_kI (ns : List Int) (t : Int) (c : D) : pX (kI ns) (ns.map fun _ => c) (Sum.inl t : Key) c = (addKey ns t).map fun _ => c := by
  unfold pX addKey
  rw [pAny_kI]
  by_cases q : t ∈ ns
  · rw [if_pos (decide_eq_true q), if_pos q]
    clear q
    induction ns with
    | nil => rfl
    | cons n ns ih =>
      rw [show kI (n :: ns) = Sum.inl n :: kI ns from rfl, List.map_cons, List.zipWith_cons_cons, ih, ite_self]
  · rw [if_neg (by rw [decide_eq_false q]; exact Bool.false_ne_true), if_neg q]
    simp
theorem lk_kI (ns : List Int) (t : Int) (c : D) : (lkD (kI ns) (ns.map fun _ => c) (Sum.inl t : Key)).isSome = decide (t ∈ ns) := by
  induction ns with
  | nil => rfl
  | cons n ns ih =>
    rw [show kI (n :: ns) = Sum.inl n :: kI ns from rfl, List.map_cons]
    by_cases q : n = t
    · subst q; simp [lkD]
    · have q' : ¬ (Sum.inl n : Key) = Sum.inl t := fun z => q (Sum.inl.inj z)
      simp only [lkD, if_neg q', ih]
      exact decide_eq_decide.mpr ⟨fun h => List.mem_cons_of_mem _ h, fun h => (List.mem_cons.mp h).elim (fun z => absurd z.symm q) id⟩
end
end Dl
namespace Dl
open PySem L2 Evl PyProof.Rows
section
variable {X : Cx} {K : PySem.W.Frag} {a b : Expr} {ta tb : TE} {pos : Pos}
theorem pt_orE {e : Expr} {t t' : TE} (h : PT X e (tTest t)) (h' : PT X e (tTest t')) : PT X e (tTest (orE t t')) := ⟨fun pins s σ H Q I q => Or.elim (show _ ∨ _ from q) (fun q => h.run pins s σ H Q I q) fun q => h'.run pins s σ H Q I q⟩
theorem kt_in (hK : X.K = K) (hu : X.A.units + 65 < cLine) (ha : PE X a ta) (hb : PE X b tb) (hm : behindInMarks .In b = false) : PT X (.Compare a [.In] [b] pos) (tTest (orE (tOp (inU K) ta tb) (tDIn ta tb))) := by subst hK; exact pt_orE (pt_cmpR (or_inU hu) ha hb hm) (pt_cmp (pc_din (by omega) ha hb) hm)
theorem kt_nin (hK : X.K = K) (hu : X.A.units + 65 < cLine) (ha : PE X a ta) (hb : PE X b tb) (hm : behindInMarks .NotIn b = false) : PT X (.Compare a [.NotIn] [b] pos) (tTest (orE (tOp (ninU K) ta tb) (tDNotIn ta tb))) := by subst hK; exact pt_orE (pt_cmpR (or_ninU hu) ha hb hm) (pt_cmp (pc_dnotin (by omega) ha hb) hm)
theorem kt_eq (hK : X.K = K) (hu : X.A.units + 64 < cLine) (ha : PE X a ta) (hb : PE X b tb) : PT X (.Compare a [.Eq] [b] pos) (tTest (tOp (rEqD K) ta tb)) := by subst hK; exact pt_cmpR (op_eqD hu) ha hb (nomark _)
theorem kt_ne (hK : X.K = K) (hu : X.A.units + 64 < cLine) (ha : PE X a ta) (hb : PE X b tb) : PT X (.Compare a [.NotEq] [b] pos) (tTest (tOp (rNeD K) ta tb)) := by subst hK; exact pt_cmpR (op_neD hu) ha hb (nomark _)
end
end Dl
/-! sorted of ints, of pairs of ints, of set(tuple of ints); reversed slices of tuples. -/
namespace Dl
open PySem L2 Evl PyProof.Rows
abbrev pairD (p : Int × Int) : D := .tup [.int p.1, .int p.2]
/-! ### sorted -/
section
variable {K : PySem.W.Frag} {x : D} {S : List M} {te ta : TE}
theorem V1F_layA {r : V → Hp → VK → Prop} {ds : List D} (h : ∀ H0 H v, Ex H0 H → Rb K H0 H x v → ∀ Q : VK, (∀ vs p, Rps K H0 ds vs → H p = none → Q (.ref p) (upd H p (.lst vs))) → r v H Q) : V1F K r x (.lst ds) := fun Pn pl G H0 H σ S v Rr hv Q q => by
  refine h H0 H v Rr.e0 hv Q fun vs p h1 hp => ?_
  obtain ⟨R2, a, b, c, e2⟩ := Rr.new_own (o := .lst vs) hp
  exact q p H0 _ (Gr.refl _ _) e2 R2 a b c ⟨vs, upd_same, h1⟩
theorem rps_ints (H : Hp) : ∀ ns : List Int, Rps K H (ns.map D.int) (ns.map V.int)
  | [] => rfl
  | n :: ns => ⟨_, _, rfl, rfl, rps_ints H ns⟩
theorem v_sortI {ns : List Int} : V1F K (r1 (rSortedI K)) (.lst (ns.map D.int)) (.lst ((isort ns).map D.int)) := V1F_layA fun H0 H v e hv Q q => by
  obtain ⟨a, vs, rfl, h1, h2⟩ := hv.lst e
  have h3 := h2.ints
  subst h3
  exact ⟨a, ns, rfl, sq_of h1, fun ns' p k1 k2 hp => q _ p (by rw [isort_uniq k1 k2]; exact rps_ints _ _) hp⟩
def pairAt (H : Hp) : V → Int × Int
  | .ref t => match H t with
    | some (.tup [.int i, .int j]) => (i, j)
    | _ => (0, 0)
  | _ => (0, 0)
theorem rps_pairs {H : Hp} : ∀ {ps : List (Int × Int)} {vs : List V}, Rps K H (ps.map pairD) vs → vs.map (pairAt H) = ps ∧ ∀ v ∈ vs, ∃ t, v = V.ref t ∧ H t = some (.tup [.int (pairAt H v).1, .int (pairAt H v).2])
  | [], vs, h => by
    unfold List.map Rps at h
    subst h
    exact ⟨rfl, fun v hv => by cases hv⟩
  | p :: ps, vs, h => by
    obtain ⟨v, r, rfl, h2, h3⟩ := (show ∃ v r, vs = v :: r ∧ Rp K H (pairD p) v ∧ Rps K H (ps.map pairD) r by unfold List.map Rps at h; exact h)
    obtain ⟨k1, k2⟩ := rps_pairs h3
    obtain ⟨a, ws, rfl, q1, q2⟩ := (show ∃ a ws, v = V.ref a ∧ H a = some (.tup ws) ∧ Rps K H [.int p.1, .int p.2] ws by unfold Rp at h2; exact h2)
    have q3 : ws = [V.int p.1, V.int p.2] := Rps.ints (ns := [p.1, p.2]) q2
    subst q3
    have e : pairAt H (.ref a) = p := by simp only [pairAt, q1]
    refine ⟨by rw [List.map_cons, e, k1], fun v hv => ?_⟩
    rcases List.mem_cons.mp hv with z | z
    · subst z; exact ⟨a, rfl, by rw [e]; exact q1⟩
    · exact k2 v z
theorem rps_of_pairs {H : Hp} : ∀ (vs : List V), (∀ v ∈ vs, ∃ t, v = V.ref t ∧ H t = some (.tup [.int (pairAt H v).1, .int (pairAt H v).2])) → Rps K H ((vs.map (pairAt H)).map pairD) vs
  | [], _ => rfl
  | v :: vs, h => by
    obtain ⟨t, e, k⟩ := h v (by simp)
    refine ⟨v, vs, rfl, ?_, rps_of_pairs vs fun w hw => h w (List.mem_cons_of_mem _ hw)⟩
    show Rp K H (pairD (pairAt H v)) v
    unfold pairD Rp
    exact ⟨t, _, e, k, ⟨_, _, rfl, rfl, _, _, rfl, rfl, rfl⟩⟩
theorem v_sortP {ps : List (Int × Int)} : V1F K (r1 (rSortedPO K)) (.lst (ps.map pairD)) (.lst ((psort ps).map pairD)) := V1F_layA fun H0 H v e hv Q q => by
  obtain ⟨a, vs, rfl, h1, h2⟩ := hv.lst e
  obtain ⟨k1, k2⟩ := rps_pairs h2
  refine ⟨a, vs, pairAt H0, rfl, sq_of h1, fun x hx => ?_, fun ys p j1 j2 hp => ?_⟩
  · obtain ⟨t, e1, e2⟩ := k2 x hx
    exact ⟨t, e1, e _ _ e2⟩
  · have pm : List.Perm ys vs := j2.perm
    have k3 : ys.map (pairAt H0) = psort ps := by
      refine psort_uniq (by rw [← k1]; exact pm.map _) (List.pairwise_map.mpr (j1.imp fun {a b} h => ?_))
      have := SrtO.lexB_no.mp h
      unfold plt
      omega
    refine q ys p ?_ hp
    rw [← k3]
    exact rps_of_pairs ys fun v hv => k2 v (pm.mem_iff.mp hv)
theorem v_sortPm {α : Type} {xs : List α} {f g : α → Int} : V1F K (r1 (rSortedPO K)) (.lst (xs.map fun a => .tup [.int (f a), .int (g a)])) (.lst ((psort (xs.map fun a => (f a, g a))).map pairD)) := by
  have h := v_sortP (K := K) (ps := xs.map fun a => (f a, g a))
  rw [List.map_map] at h
  exact h
end
section
variable {K : PySem.W.Frag} {S : List M} {tl : TE} {ds : List D}
theorem Rb.tupP {H0 H : Hp} {v : V} (h : Rb K H0 H (.tup ds) v) : Rp K H0 (.tup ds) v := h.elim id fun ⟨_, _, z⟩ => z.elim
theorem EvB.tup (h : EvB K tl S (.tup ds)) : EvP K tl S (.tup ds) := fun Pn pl G H0 H σ Rr Q q => h Pn pl G H0 H σ Rr Q fun v H0' H' g e R' p => q v H0' H' g e R' (Rb.tupP p)
theorem wkp_tupb (h : EvB K tl S (.tup ds)) : WkP K (iSq K tl) S ds := wkp_tup h.tup
end
theorem GtP.weak {K : PySem.W.Frag} {g : TG} {us vs : List Nat} {S S2 : List M} {x : D} (h : GtP K g us S x S2) (sub : ∀ i ∈ us, i ∈ vs) : GtP K g vs S x S2 :=
  ⟨fun i hi => h.out i fun z => hi (sub i z), h.len, fun Pn pl G H0 H σ v hv R p Q q => h.run Pn pl G H0 H σ v (fun i hi => hv i (sub i hi)) R p Q fun σ2 R2 k => q σ2 R2 fun i hi => k i fun z => hi (sub i z)⟩
theorem noown_set {S : List M} {j : Nat} {x : D} (h : ∀ (i : Nat) (m : M), S[i]? = some m → m.own = false) : ∀ (i : Nat) (m : M), (S.set j (.d x))[i]? = some m → m.own = false := fun i m e => by
  by_cases q : j = i
  · subst q
    by_cases l : j < S.length
    · rw [List.getElem?_set_self l] at e; cases e; rfl
    · rw [List.getElem?_eq_none (by rw [List.length_set]; omega)] at e; cases e
  · rw [List.getElem?_set_ne q] at e; exact h i m e
theorem evp_dgeti2 {K : PySem.W.Frag} {S : List M} {ta tb tx : TE} {i : Int} {ks : List Key} {xs : List D} {z d : D} (ha : EvB K ta S (.dk ks xs)) (hb : EvB K tb S (.int i)) (hx : EvP K tx S z) (h : lkD ks xs (.inl i) = some d) : EvP K (tDGet2 ta tb tx) S d := by
  have := evp_dget2 (k := .inl i) ha hb hx
  rw [h] at this
  exact this
theorem v_eqb {K : PySem.W.Frag} {x y : D} {b : Bool} (px : x.isPy = true) (py : y.isPy = true) (sx : SeqAt.shaped x.py = true) (sy : SeqAt.shaped y.py = true) (e : PyData.eqv x.py y.py = b) : V2P K (rEqD K) x y (.bl b) := e ▸ v_eq px py sx sy
theorem v_neb {K : PySem.W.Frag} {x y : D} {b : Bool} (px : x.isPy = true) (py : y.isPy = true) (sx : SeqAt.shaped x.py = true) (sy : SeqAt.shaped y.py = true) (e : (!PyData.eqv x.py y.py) = b) : V2P K (rNeD K) x y (.bl b) := e ▸ v_ne px py sx sy
theorem rdB_o {x : D} : (M.o x).rdB = true := rfl
theorem rdB_b {x : D} : (M.b x).rdB = true := rfl
theorem rdB_d {x : D} : (M.d x).rdB = true := rfl
theorem EvB.int {K : PySem.W.Frag} {S : List M} {te : TE} {i : Int} (h : EvB K te S (.int i)) : EvP K te S (.int i) := fun Pn pl G H0 H σ Rr Q q => h Pn pl G H0 H σ Rr Q fun v H0' H' g e R' p => q v H0' H' g e R' p.int
theorem pe_globI {X : Cx} {x : PySem.Str} {i : Int} {pos : Pos} (hg : Gl X x) (h : ∃ t, X.mg x = some (.int i t)) (hd : (x == ("__debug__" : PySem.Str)) = false := by decide) : PE X (.Name x pos) (tC (.int i)) := by
  obtain ⟨t, e⟩ := h
  exact pe_glob hg e ⟨t, rfl⟩ hd
/-! ### set(tuple of ints) -/
section
variable {X : Cx}
def rSetTI (K : PySem.W.Frag) (w : World) : List V → Hp → VK → Prop := fun xs H Q => ∃ (l : Addr) (ns : List Int), xs = [V.ref l] ∧ SqT K H l (ns.map V.int) ∧ ns.length ≤ 1000 ∧
  ∀ (a : Addr) (c : Nat), H a = none → c ≤ ns.length → Q (.ref a) (upd H a (SetO w a (fun j => decide (j ∈ ns)) c))
theorem cr_setTI (hc : X.calm = true) : CallR X (.type "set") (rSetTI X.K X.w) := by
  intro pins s σ H xs us Q I r h
  obtain ⟨l, ns, rfl, hl, hn, q⟩ := h
  rw [Vals.ref1 r]
  obtain ⟨its, rv, ht, hz⟩ := I.tuple hl
  have hi := ints_of_vals rv
  have hn1 : H s.heap.objs.size = none := I.hok.fresh (Nat.le_refl _)
  refine call_set_tupI (P := X.prog) (w := X.w) ns (I.ok.hd hc) ht hi (by unfold scanBound; omega) fun h' tk c R hcl k => ?_
  exact ⟨.ref s.heap.objs.size, upd H s.heap.objs.size (SetO X.w s.heap.objs.size (fun j => decide (j ∈ ns)) c), I.laid (t' := tk) k (Nat.le_refl _) (setO_new R), rfl, q _ c hn1 hcl⟩
end
/-- two strictly sorted lists of the same members -/
theorem ssu : ∀ {a b : List Int}, a.Pairwise (· < ·) → b.Pairwise (· < ·) → (∀ k, k ∈ a ↔ k ∈ b) → a = b
  | [], [], _, _, _ => rfl
  | [], y :: b, _, _, h => by have := (h y).mpr (by simp); cases this
  | x :: a, [], _, _, h => by have := (h x).mp (by simp); cases this
  | x :: a, y :: b, ha, hb, h => by
    obtain ⟨a1, a2⟩ := List.pairwise_cons.mp ha
    obtain ⟨b1, b2⟩ := List.pairwise_cons.mp hb
    have e : x = y := by
      rcases List.mem_cons.mp ((h x).mp (by simp)) with z | z
      · exact z
      · rcases List.mem_cons.mp ((h y).mpr (by simp)) with u | u
        · exact u.symm
        · have := b1 x z; have := a1 y u; omega
    subst e
    rw [ssu a2 b2 fun k => ⟨fun z => ?_, fun z => ?_⟩]
    · rcases List.mem_cons.mp ((h k).mp (List.mem_cons_of_mem _ z)) with u | u
      · have := a1 k z; omega
      · exact u
    · rcases List.mem_cons.mp ((h k).mpr (List.mem_cons_of_mem _ z)) with u | u
      · have := b1 k z; omega
      · exact u
section
variable {K : PySem.W.Frag} {S : List M} {ta : TE} {w : World}
/-- sorted(set(t)), t a tuple of ints -/
theorem evf_sortset {ns l : List Int} (ha : EvB K ta S (.tup (ns.map D.int))) (hn : ns.length < 64) (hl : l.Pairwise (· < ·)) (hm : ∀ k, k ∈ l ↔ k ∈ ns) :
    EvF K (tCB (rSortedSet w) (tCons (tCB (rSetTI K w) (tCons ta tNil)) tNil)) S (.lst (l.map D.int)) := fun Pn pl G H0 H σ Rr Q q =>
  ha Pn pl G H0 H σ Rr _ fun v H01 H1 g1 e1 R1 p1 => by
    obtain ⟨a, vs, rfl, h0, h1, h2⟩ := p1.tup R1.e0
    have h3 := h2.ints
    subst h3
    refine ⟨a, ns, rfl, st_of h1, by omega, fun b c hb hc => ?_⟩
    obtain ⟨R2, _, _, _, e2⟩ := R1.new_own (o := SetO w b (fun j => decide (j ∈ ns)) c) hb
    refine ⟨b, _, c, rfl, upd_same, by omega, fun ms p k1 k2 k3 hp => ?_⟩
    obtain ⟨R3, a1, b1, c1, e3⟩ := R2.new_own (o := .lst (ms.map V.int)) hp
    have e4 : ms = l := ssu k1 hl fun k => by rw [k2 k, hm k, decide_eq_true_iff]
    exact q p H01 _ g1 ((e1.trans e2).trans e3) R3 a1 b1 c1 ⟨_, upd_same, by rw [← e4]; exact rps_ints _ _⟩
theorem kr_setT {X : Cx} (hK : X.K = K) (hw : X.w = w) (hc : X.calm = true) : CallR X (.type "set") (rSetTI K w) := by subst hK; subst hw; exact cr_setTI hc
theorem kr_sortSet {X : Cx} (hw : X.w = w) (hc : X.calm = true) : CallR X (.builtin "sorted") (rSortedSet w) := by subst hw; exact cr_sortedSet hc
theorem kr_sortP {X : Cx} (hK : X.K = K) : CallR X (.builtin "sorted") (rSortedPO K) := by subst hK; exact cr_sortedPO
end
end Dl
/-! C(..).f(..): a method of an object that is new. -/
namespace Dl
open PySem L2 Evl PyProof.Rows
section
variable {K : PySem.W.Frag} {Pn : List Nat} {pl : Nat → V} {G H0 H H1 H2 : Hp} {σ : L2.St} {S : List M} {C : Ct} {R : D → List M → Prop}
theorem putBack_d : ∀ (ds : List D) (So S : List M), putBack (ds.map Ar.d) So S = S
  | [], So, S => by cases So <;> rfl
  | d :: ds, [], S => rfl
  | d :: ds, m :: So, S => by show putBack (ds.map Ar.d) So S = S; exact putBack_d ds So S
theorem slots_d : ∀ ds : List D, slots (ds.map Ar.d) = []
  | [] => rfl
  | d :: ds => by
    have := slots_d ds
    unfold slots at *
    rw [List.map_cons, List.filterMap_cons]
    exact this
theorem arels_d : ∀ {ds : List D} {vs : List V}, Rps K H0 ds vs → Arels K H0 σ (ds.map Ar.d) vs
  | [], vs, h => by
    have e : vs = [] := by unfold Rps at h; exact h
    subst e; exact .nil
  | d :: ds, vs, h => by
    obtain ⟨v, r, rfl, h1, h2⟩ := (show ∃ v r, vs = v :: r ∧ Rp K H0 d v ∧ Rps K H0 ds r by unfold Rps at h; exact h)
    exact .cons (show Arel K H0 σ (.d d) v from h1) (arels_d h2)
theorem evn_methf {Ca : Addr} {f : PySem.Str} {to : TE} {ta : TA} {E : XK} (h0 : EvO K to S fun x S1 => ∃ ns xs ds, x = .ins Ca ns xs ∧ f ∉ ns ∧ ApP K ta S1 ds ∧ C (.o x :: ds.map M.d) fun d So => ∃ y So', So = .o y :: So' ∧ R d S1) :
    EvN K (tMeth Ca f (spD K C) [] E to ta) S R := fun Pn pl G H0 H σ Rr Q q => h0 Pn pl G H0 H σ Rr _ fun x S1 p H01 H1 ⟨ns, xs, ds, ex, hf, ha, hc⟩ g1 R1 n0 ng ap o => by
  subst ex
  have o' := o
  obtain ⟨dx, vs, k1, k2, k3⟩ := o'
  have RG := R1.addG ng k1 ap
  refine ⟨p, dx, _, rfl, k1, lookup_no hf, ha Pn pl _ H01 H1 σ RG _ fun us H02 H2 g2 e2 R2 p2 => ?_⟩
  rw [List.append_nil]
  have n0' : H02 p = none := g2.out (by rw [upd_same]; exact fun z => nomatch z) n0
  have R3 : Rs K Pn pl G H02 H2 σ S1 := R1.fwd g2.ex e2 R2.e0 fun i m l hi ho hs hl0 hl => by
    obtain ⟨ov, q1, q2⟩ := R2.sl i m hi
    obtain ⟨l', e1, e2, e3, e4⟩ := q2.addr ho
    rw [hs] at q1
    cases q1
    cases e1
    exact e2
  have o3 : Ro K H02 H2 (.ins Ca ns xs) p := (o.mono0 g2.ex).mono e2
  have R4 := R3.push n0' ng ap o3
  have ok2 : arChk (S1 ++ [.o (.ins Ca ns xs)]) (.s S1.length :: ds.map Ar.d) = true := by
    unfold arChk
    have es : slots (.s S1.length :: ds.map Ar.d) = [S1.length] := by
      show S1.length :: slots (ds.map Ar.d) = _
      rw [slots_d]
    rw [es, Bool.and_eq_true, List.all_eq_true]
    refine ⟨fun a ha' => ?_, rfl⟩
    rcases List.mem_cons.mp ha' with e | ha'
    · subst e
      simp only [arOne, List.getElem?_append_right (Nat.le_refl _), Nat.sub_self]
      rfl
    · obtain ⟨d, _, rfl⟩ := List.mem_map.mp ha'
      rfl
  have hA : Arels K H02 (σ ++ [some (.ref p)]) (.s S1.length :: ds.map Ar.d) (.ref p :: us) := by
    refine .cons ?_ (arels_d p2)
    show (σ ++ [some (V.ref p)])[S1.length]? = _
    rw [← R1.len, List.getElem?_append_right (Nat.le_refl _), Nat.sub_self]; rfl
  have eA : (Ar.s S1.length :: ds.map Ar.d).map (arM (S1 ++ [.o (.ins Ca ns xs)])) = .o (.ins Ca ns xs) :: ds.map M.d := by
    rw [List.map_cons, List.map_map]
    simp only [arM, List.getElem?_append_right (Nat.le_refl _), Nat.sub_self]
    rfl
  refine call_core0 R4 hA ok2 (eA ▸ hc) fun d So v H0' H' ⟨y, So', eS, r⟩ g R' pv => ?_
  subst eS
  have eB : putBack (Ar.s S1.length :: ds.map Ar.d) (.o y :: So') (S1 ++ [.o (.ins Ca ns xs)]) = S1 ++ [.o y] := by
    show putBack (ds.map Ar.d) So' ((S1 ++ [M.o (.ins Ca ns xs)]).set S1.length (M.o y)) = _
    rw [List.set_append_right _ _ (Nat.le_refl _), Nat.sub_self, putBack_d]
    rfl
  rw [eB] at R'
  obtain ⟨R5, l, e1, e2, e3, e4, e5⟩ := R'.pop R1.pin
  refine q d S1 v H0' H' r ((g1.trans (g2.sub fun a ha => ?_)).trans g) R5 pv
  by_cases z : a = p
  · rw [z, upd_same]; exact fun z => nomatch z
  · rw [upd_ne z]; exact ha
end
end Dl
/-! The pool of drawn numbers; what is known of an own object, closed. -/
namespace Dl
open PySem L2 Evl PyProof.Rows
section
variable {K : PySem.W.Frag} {Pn : List Nat} {S : List M} {P : Post} {te : TE} {t : TS} {R : D → List M → Prop} {i : Nat} {x : D} {φ : D → Prop}
theorem evn_close (h : EvN K te S fun d S1 => ∃ x, S1[i]? = some (.o x) ∧ φ x ∧ R d (S1.set i (.e φ))) : EvN K te S R := fun Pn pl G H0 H σ Rr Q q => h Pn pl G H0 H σ Rr Q fun d S1 v H0' H' ⟨x, hx, px, r⟩ g R1 p => q d _ v H0' H' r g (R1.close hx px) p
theorem st_close (hs : S[i]? = some (.o x)) (hx : φ x) (h : StN K Pn t (S.set i (.e φ)) P) : StN K Pn t S P := fun pl G H0 H σ R => h pl G H0 H σ (R.close hs hx)
theorem v_mulR {i j : Int} (h1 : -(2 ^ 64) < j) (h2 : j < 2 ^ 64) : V2P K mulI (.int i) (.int j) (.int (i * j)) := v_mul (.inr ⟨h1, h2⟩)
theorem v_powR {i j : Int} (h1 : 0 ≤ j) (h2 : j ≤ 1000000) (h3 : i.natAbs < 2 ^ 64) : V2P K powI (.int i) (.int j) (.int (i ^ j.toNat)) := v_pow ⟨h1, h2, h3⟩
theorem v_fdvR {i j : Int} (h1 : j ≠ 0) (h2 : j.natAbs < 1073741824) : V2P K fdvI (.int i) (.int j) (.int (i.fdiv j)) := v_fdv ⟨h1, h2⟩
/-- the pool -/
def PoolD (x : D) : Prop := ∃ (ns : List Int) (a1 a2 a3 a4 : Int), x = .lst [.lst (ns.map D.int), .int a1, .int a2, .int a3, .int a4, .int 0] ∧ 0 ≤ a1
def spPool (K : PySem.W.Frag) : Sp := fun vs H Q _ => ∃ (a : Addr) (ns : List Int), vs = [.ref a, .int 0] ∧ SqL K H a (ns.map V.int) ∧
  ∀ l p, H l = none → l ≠ p → H p = none → Q (.ref p) (upd (upd H l (.lst (ns.map V.int))) p (.lst [.ref l, .int 0, .int 0, .int 1, .int 0, .int 0]))
theorem evo_pool {E : XK} {ns : List Int} {R : D → List M → Prop} (h0 : S[i]? = some (.q ns)) (r : R (.lst [.lst (ns.map D.int), .int 0, .int 0, .int 1, .int 0, .int 0]) S) :
    EvO K (tCall (spPool K) [] E (tCons (tVar i) (tCons (tC (.int 0)) tNil))) S R := fun Pn pl G H0 H σ Rr Q q => by
  obtain ⟨ov, h1, a, rfl, h2⟩ := Rr.sl i _ h0
  refine ⟨_, h1, a, ns, rfl, ex_l Rr.eg h2, fun l p hl ne hp => ?_⟩
  obtain ⟨g1, e1, R1⟩ := Rr.lay (o := .lst (ns.map V.int)) hl
  have hp1 : upd H l (.lst (ns.map V.int)) p = none := by rw [upd_ne ne.symm]; exact hp
  obtain ⟨R2, n0, ng, ap, e2⟩ := R1.new_own (o := .lst [.ref l, .int 0, .int 0, .int 1, .int 0, .int 0]) hp1
  refine q _ S p _ _ r g1 R2 n0 ng ap ⟨_, upd_same, ?_⟩
  refine ⟨_, _, rfl, ⟨l, _, rfl, upd_same, rps_ints _ _⟩, _, _, rfl, rfl, _, _, rfl, rfl, _, _, rfl, rfl, _, _, rfl, rfl, _, _, rfl, rfl, rfl⟩
end
section
variable {P : Program} {w : World} {K : PySem.W.Frag} {mg : PySem.Str → Option Value} {base : Heap}
/-- a def whose promise is told raw -/
theorem okR {x : PySem.Str} {st : Stmt} {N ps : List PySem.Str} {k : Nat} {sp : Sp} (F : FunAt K mg x st ps) (Sc : FnScope N ps (defScope st)) (len : ∀ vs H Q E, sp vs H Q E → vs.length = ps.length)
    (hbody : ∀ (f : Addr) (cdv : Value) (A : Around) (outer : List Env) (s : Shared) (H : Hp) (vs : List V) (Q : VK) (E : XK), Room k (A.deeper (envOfC x (defScope st) s.heap.objs.size f cdv)) → sp vs H Q E →
      ∃ t, PSs (cxOf CX0 P w K mg base N x (defScope st) f cdv A outer s H E).nox (defBody st) t ∧ t { nx := fun _ H' => Q .non H', rt := Q } (start N vs) H) : Cal P w K mg base x (k + 1) ps sp := by
  obtain ⟨f, fd, h1, h2, h3⟩ := F.ex
  exact ⟨f, fd, h1, h2.kp, h3, h2.ok Sc len (hbody f)⟩
theorem cal_no {x : PySem.Str} {st : Stmt} {ps : List PySem.Str} {C : Ct} {k : Nat} (F : FunAt K mg x st ps) (h : ∀ S R, ¬ C S R) : Cal P w K mg base x k ps (spD K C) := by
  obtain ⟨f, fd, h1, h2, h3⟩ := F.ex
  exact ⟨f, fd, h1, h2.kp, h3, fun vs H Q E ⟨S, R, _, _, c, _⟩ => (h S R c).elim, fun A outer s H args us vs Q E _ _ _ _ ⟨S, R, _, _, c, _⟩ => (h S R c).elim⟩
end
end Dl
/-! t[::-1] of a tuple. -/
namespace Dl
open PySem PySem.Spec PyProof.Rows L2 Evl HT
section
variable {prog : Program} {w : World} {A : Around} {E : Value → Shared → Prop} {s : Shared}
theorem adjust_rev (n : Nat) : Builtin.Slice.sliceAdjust none none (-1) (n : Int) = ((n : Int) - 1, -1) := by
  unfold Builtin.Slice.sliceAdjust
  simp
theorem places_rev (n : Nat) : Builtin.Slice.slicePlaces ((n : Int) - 1) (-1) (-1) = n := by
  unfold Builtin.Slice.slicePlaces
  simp
  omega
theorem fm_congr {α β : Type} {f g : α → Option β} : ∀ {l : List α}, (∀ x ∈ l, f x = g x) → l.filterMap f = l.filterMap g
  | [], _ => rfl
  | a :: l, h => by
    rw [List.filterMap_cons, List.filterMap_cons, h a (by simp), fm_congr (l := l) fun x hx => h x (List.mem_cons_of_mem _ hx)]
theorem pick_rev (xs : Array Value) : ((List.range xs.size).filterMap fun (m : Nat) => xs[((xs.size : Int) - 1 + (m : Int) * (-1)).toNat]?).toArray = xs.toList.reverse.toArray := by
  have e : (List.range xs.size).filterMap (fun (m : Nat) => xs[((xs.size : Int) - 1 + (m : Int) * (-1)).toNat]?) = ((List.range xs.size).map fun k => xs.size - 1 - k).filterMap (xs[·]?) := by
    rw [List.filterMap_map]
    refine fm_congr fun m hm => ?_
    have := List.mem_range.mp hm
    have e1 : ((xs.size : Int) - 1 + (m : Int) * (-1)).toNat = xs.size - 1 - m := by omega
    rw [e1]
    rfl
  rw [e, PySem.W.krv_range, List.filterMap_reverse, PySem.W.krv_all]
theorem getItem_tuple_rev {t sl : Addr} {items : Array Value} {vl vu vs : Value} {Q : Value → Shared → Prop} (ht : IsTup s.heap t items) (hs : s.heap.IsSliceOf sl vl vu vs) (pl : IsPart vl none) (pu : IsPart vu none) (ps : IsPart vs (some (-1)))
    (h : Q (.ref s.heap.objs.size) { s with heap := s.heap.push { cls := .type "tuple", data := .seq items.toList.reverse.toArray } })
    (hsz : items.size ≤ sizeLine) : wpAny (model prog w) A (getItem (.ref t) (.ref sl)) Q E s := by
  have htake : sizeOk (.seq items.toList.reverse.toArray) := by
    show items.toList.reverse.toArray.size ≤ sizeLine
    rw [List.size_toArray, List.length_reverse, Array.length_toList]
    exact hsz
  obtain ⟨os, hos, hcs, hds⟩ := id hs
  have hTs : s.TypeIs (.ref sl) "slice" := ⟨os, hos, hcs⟩
  unfold getItem
  try with_reducible refine wpAny_holding ?_
  first | refine wpAny_bind (wpAny_pure ?_) | skip
  refine wpAny_bind (wpAny_sequenceKey ht.typeIs (by decide) ?_)
  refine wpAny_bind (wpAny_callSpecial?_slot (name := Str.ofString "__getitem__") ht.typeIs PyProof.Rows.slot_tuple_getitem
    (wpAny_call_entry PyProof.Rows.slot_tuple_getitem ht.typeIs entry_tuple_getitem ?_ (args_tuple_getitem _ _)))
  show wpAny _ _ (Builtin.Tuple.tupleItemsOf (.ref t) >>= _) _ _ s
  refine wpAny_bind (tupleItemsOf_ ht ?_)
  refine wpAny_bind (wpAny_typeOf hTs ?_)
  rw [if_pos (by decide)]
  have app : ∀ {Q' : Int × Int × Nat → Shared → Prop} {E' : Value → Shared → Prop} {A' : Around}, Q' ((items.size : Int) - 1, -1, items.size) s → wpAny (model prog w) A' (Builtin.Slice.sliceApplied (.ref sl) (pure (items.size : Int))) Q' E' s := fun {Q' E' A'} q => by
    unfold Builtin.Slice.sliceApplied Builtin.Slice.sliceFields
    refine wpAny_bind (wpAny_bind (wpAny_field hos hds (x := vl) rfl (wpAny_bind (wpAny_field hos hds (x := vu) rfl (wpAny_bind (wpAny_field hos hds (x := vs) rfl (wpAny_pure ?_)))))))
    refine wpAny_bind (slicePart_ ps ?_)
    show wpAny _ _ (if ((-1 : Int) == 0) = true then _ else _) _ _ s
    rw [if_neg (by decide)]
    refine wpAny_bind (slicePart_ pl (wpAny_bind (slicePart_ pu (wpAny_bind (wpAny_pure ?_)))))
    show wpAny _ _ (match Builtin.Slice.sliceAdjust none none (-1) (items.size : Int) with | (lo, hi) => pure (lo, (-1 : Int), Builtin.Slice.slicePlaces lo hi (-1))) _ _ s
    rw [adjust_rev]
    show wpAny _ _ (pure (((items.size : Int) - 1), (-1 : Int), Builtin.Slice.slicePlaces ((items.size : Int) - 1) (-1) (-1))) _ _ s
    rw [places_rev]
    exact wpAny_pure q
  refine wpAny_bind (app ?_)
  have hno : ¬ ((((items.size : Int) - 1) == 0 && (-1 : Int) == 1 && (items.size == items.size)) = true) := by
    intro q
    rw [Bool.and_eq_true, Bool.and_eq_true] at q
    exact absurd (eq_of_beq q.1.2) (by decide)
  show wpAny _ _ (if (((items.size : Int) - 1) == 0 && (-1 : Int) == 1 && (items.size == items.size)) = true then _ else _) _ _ s
  rw [if_neg hno, pick_rev]
  first
    | exact wpAny_bind (m := Builtin.Tuple.tupleExact _) (wpAny_newObj_type (wpAny_pure ⟨_, rfl, wpAny_pure h⟩) htake)
    | exact wpAny_bind (m := Builtin.Tuple.tupleExact _) (wpAny_newObj_type (wpAny_bind (wpAny_pure (wpAny_pure ⟨_, rfl, wpAny_pure h⟩))) htake)
end
section
variable {X : Cx}
def tRevT (K : PySem.W.Frag) (te : TE) : TE := fun σ H Q => te σ H fun x H1 => ∃ a xs, x = .ref a ∧ SqT K H1 a xs ∧ ∀ p, H1 p = none → Q (.ref p) (upd H1 p (.tup xs.reverse))
theorem pe_revT {K : PySem.W.Frag} {e : Expr} {te : TE} {k : Nat} {p1 p2 p3 pos : Pos} (hK : X.K = K) (he : PE X e te) : PE X (.Subscript e (.Slice none none (some (.UnaryOp .USub (.Constant (.int 1) k p1) p2)) p3) pos) (tRevT K te) := by
  subst hK
  refine ⟨fun pins s σ H Q I h => ?_⟩
  refine Subscript_ (thn (he.run pins s σ H _ I h) fun v s1 ⟨x, H1, I1, r1, q1⟩ => ?_)
  obtain ⟨a, xs, ex, hx, q⟩ := q1
  subst ex
  cases r1
  have hst : PO X (some (.UnaryOp .USub (.Constant (.int 1) k p1) p2)) (tPart (tUn (rU fun i => .int (-i)) (tC (.int 1)))) := po_some (pe_un un_neg pe_int)
  refine wpAny_Slice (thn (po_none.run pins s1 σ H1 (fun o H2 => o = none ∧ H2 = H1) I1 ⟨rfl, rfl⟩) fun vl s2 ⟨l, H2, I2, pl, el, e2⟩ => ?_)
  subst el e2
  refine thn (po_none.run pins s2 σ H2 (fun o H3 => o = none ∧ H3 = H2) I2 ⟨rfl, rfl⟩) fun vu s3 ⟨u, H3, I3, pu, eu, e3⟩ => ?_
  subst eu e3
  refine thn (hst.run pins s3 σ H3 (fun o H4 => o = some (-1) ∧ H4 = H3) I3 ⟨1, rfl, -1, rfl, rfl, rfl⟩) fun vs s4 ⟨o, H4, I4, ps, eo, e4⟩ => ?_
  subst eo e4
  have I5 : Inv X pins σ H4 { s4 with heap := s4.heap.push { cls := .type "slice", data := .fields #[vl, vu, vs] } } := I4.kept (t' := s4.toks) fun b ob q => Heap.get?_push_of_some _ q
  obtain ⟨its, r, ht, hz⟩ := I5.tuple hx
  have hlen := r.length
  show wpAny (model X.prog X.w) X.A (subscriptTail e (.Slice none none (some (.UnaryOp .USub (.Constant (.int 1) k p1) p2)) p3) (.ref a) (.ref s4.heap.objs.size)) (EP X pins σ Q) X.xe { s4 with heap := s4.heap.push { cls := .type "slice", data := .fields #[vl, vu, vs] } }
  refine tail_any (ops := [.ref a, .ref s4.heap.objs.size]) ht.typeIs (PyProof.Rows.slot_tuple_getitem.lookup) ?_ (by with_unfolding_all rfl)
  refine getItem_tuple_rev ht (Heap.IsSliceOf.new _ vl vu vs) pl pu ps ?_ (by rw [List.size_toArray]; omega)
  refine ⟨.ref _, _, I5.laid (t' := s4.toks) (o := .tup xs.reverse) (fun b ob q => Heap.get?_push_of_some _ q) (Nat.le_refl _) ?_, rfl, q _ (I5.hok.fresh (Nat.le_refl _))⟩
  exact ⟨by rw [List.length_reverse]; exact hz, _, r.reverse, IsTup.new _ _⟩
end
theorem Rps.reverse {K : PySem.W.Frag} {H : Hp} : ∀ {ds : List D} {vs : List V}, Rps K H ds vs → Rps K H ds.reverse vs.reverse
  | [], vs, h => by
    have e : vs = [] := by unfold Rps at h; exact h
    subst e; exact rfl
  | d :: ds, vs, h => by
    obtain ⟨v, r, rfl, h1, h2⟩ := (show ∃ v r, vs = v :: r ∧ Rp K H d v ∧ Rps K H ds r by unfold Rps at h; exact h)
    rw [List.reverse_cons, List.reverse_cons]
    exact (Rps.reverse h2).append ⟨v, [], rfl, h1, rfl⟩
theorem evp_revt {K : PySem.W.Frag} {S : List M} {te : TE} {ds : List D} (h : EvB K te S (.tup ds)) : EvP K (tRevT K te) S (.tup ds.reverse) := fun Pn pl G H0 H σ Rr Q q => h Pn pl G H0 H σ Rr _ fun v H01 H1 g1 e1 R1 p1 => by
  obtain ⟨a, vs, rfl, h0, h1, h2⟩ := p1.tup R1.e0
  refine ⟨a, vs, rfl, st_of h1, fun p hp => ?_⟩
  obtain ⟨g2, e2, R2⟩ := R1.lay (o := .tup vs.reverse) hp
  exact q _ _ _ (g1.trans g2) (e1.trans e2) R2 ⟨p, _, rfl, upd_same, Rps.mono g2.ex _ _ h2.reverse⟩
theorem evf_revl {K : PySem.W.Frag} {S : List M} {te : TE} {ds : List D} (h : EvB K te S (.lst ds)) : EvF K (tRevL K te) S (.lst ds.reverse) := fun Pn pl G H0 H σ Rr Q q => h Pn pl G H0 H σ Rr _ fun v H01 H1 g1 e1 R1 p1 => by
  obtain ⟨a, vs, rfl, h1, h2⟩ := p1.lst R1.e0
  refine ⟨a, vs, rfl, sq_of h1, fun p hp => ?_⟩
  obtain ⟨R2, n0, ng, ap, e2⟩ := R1.new_own (o := .lst vs.reverse) hp
  exact q p H01 _ g1 (e1.trans e2) R2 n0 ng ap ⟨_, upd_same, h2.reverse⟩
theorem evp_ty {K : PySem.W.Frag} {S : List M} {n : String} : EvP K (tC (.ty n)) S (.ty n) := fun Pn pl G H0 H σ Rr Q q => q _ H0 H (Gr.refl _ _) (Ex.refl _) Rr rfl
theorem emb_bl : Emb D.bl 0 := ⟨fun _ => rfl, fun _ => rfl, fun _ => Nat.le_refl _, fun a b => by simp [D.py, PyData.eqv]⟩
theorem v_eqbl {K : PySem.W.Frag} {a b : Bool} : V2P K (rEqD K) (.bl a) (.bl b) (.bl (decide (a = b))) := v_eqT emb_bl (by decide)
theorem v_nebl {K : PySem.W.Frag} {a b : Bool} : V2P K (rNeD K) (.bl a) (.bl b) (.bl (!decide (a = b))) := v_neT emb_bl (by decide)
end Dl
/-! sorted(set(xs)), xs a list of tuples of ints of any lengths, none of them empty. -/
namespace Dl
open PySem PySem.Spec PyProof.Rows Srt SrtO L2
theorem lex_asym : ∀ a b : List Int, HT.lexLt a b = true → HT.lexLt b a = false
  | [], [], h => by cases h
  | [], _ :: _, _ => rfl
  | _ :: _, [], h => by cases h
  | x :: a, y :: b, h => by
    rw [HT.lexLt_cons] at h ⊢
    by_cases e : x = y
    · rw [if_pos e] at h; rw [if_pos e.symm]; exact lex_asym a b h
    · rw [if_neg e] at h
      rw [if_neg fun z => e z.symm]
      have := of_decide_eq_true h
      exact decide_eq_false (by omega)
theorem lex_tr : ∀ a b c : List Int, HT.lexLt b a = false → HT.lexLt c b = false → HT.lexLt c a = false
  | [], _, [], _, _ => rfl
  | _ :: _, _, [], _, h => by
    rename_i x a b h1
    cases b with
    | nil => cases h1
    | cons y b => cases h
  | [], _, _ :: _, _, _ => rfl
  | x :: a, [], z :: c, h1, h2 => by cases h1
  | x :: a, y :: b, z :: c, h1, h2 => by
    rw [HT.lexLt_cons] at *
    by_cases e1 : y = x
    · rw [if_pos e1] at h1
      by_cases e2 : z = y
      · rw [if_pos e2] at h2
        rw [if_pos (e2.trans e1)]
        exact lex_tr a b c h1 h2
      · rw [if_neg e2] at h2
        rw [← e1, if_neg e2]
        exact h2
    · rw [if_neg e1] at h1
      have k1 := of_decide_eq_false h1
      by_cases e2 : z = y
      · rw [e2, if_neg e1]; exact h1
      · rw [if_neg e2] at h2
        have k2 := of_decide_eq_false h2
        rw [if_neg (by omega)]
        exact decide_eq_false (by omega)
theorem swo_lexI (k : Value → List Int) : Swo fun v u => HT.lexLt (k v) (k u) := ⟨fun x y => lex_asym _ _, fun x y z => lex_tr _ _ _⟩
def lexF (fin : Bool) : List Int → List Int → Bool
  | x :: a, y :: b => if x = y then lexF fin a b else decide (x < y)
  | _, _ => fin
theorem lexF_eq : ∀ a b : List Int, lexF (decide (a.length < b.length)) a b = HT.lexLt a b
  | [], [] => rfl
  | [], _ :: _ => rfl
  | _ :: _, [] => rfl
  | x :: a, y :: b => by
    rw [HT.lexLt_cons, ← lexF_eq a b, show decide ((x :: a).length < (y :: b).length) = decide (a.length < b.length) by simp]
    rfl
section
variable {prog : Program} {w : World} {A : Around} {E : Value → Shared → Prop} {s : Shared}
theorem kat_ints {fin : Bool} {Q : Bool → Shared → Prop} : ∀ {xs ys : List Value} {ns ms : List Int} {i : Nat}, IntsAre xs ns → IntsAre ys ms → Q (lexF fin ns ms) s → PySem.W.KatLex prog w A true fin Q (xs.zip ys) i s
  | _, _, _, _, i, .nil, hy, h => by
    rw [List.zip_nil_left]
    cases hy <;> exact PySem.W.kat_nil h
  | _, _, _, _, i, .cons n t r, .nil, h => by
    rw [List.zip_nil_right]
    exact PySem.W.kat_nil h
  | _, _, _, _, i, .cons n t r, .cons m u r', h => by
    rw [List.zip_cons_cons]
    refine PySem.W.kat_cons (SeqAt.EqAt.int_int n t m u prog w _ _ ?_)
    refine PySem.W.kat_go (fun e1 => ?_) (fun e1 => ?_)
    · have ex : n = m := by simpa using e1
      refine PySem.W.kat_yes (kat_ints r r' ?_)
      simp only [lexF, if_pos ex] at h
      exact h
    · have ex : ¬ n = m := by simpa using e1
      simp only [lexF, if_neg ex] at h
      exact PySem.W.kat_no (TS.oneLt_ints _ h)
theorem tup_cmp {vs : List Value} {k : Value → List Int} (hp : ∀ v ∈ vs, TS.TupInts s.heap v (k v)) : Cmp prog w A s (tuples' true) (fun p => p.1 ∈ vs) (lt2 fun v u => HT.lexLt (k v) (k u)) := by
  intro p q hm hm'
  have h1 := hp _ hm
  have h2 := hp _ hm'
  show wpAny (model prog w) A (keyLt' (tuples' true) p.1 q.1) (fun r s' => s' = s ∧ r = HT.lexLt (k p.1) (k q.1)) (fun _ _ => False) s
  generalize k p.1 = x at h1 ⊢
  generalize k q.1 = x' at h2 ⊢
  obtain ⟨a, xs, e, ⟨o, ho, hc, n, hd⟩, i1⟩ := h1
  obtain ⟨a', xs', e', ⟨o', ho', hc', n', hd'⟩, i2⟩ := h2
  rw [e, e']
  refine PySem.W.kat_lt ho hd ho' hd' (kat_ints i1 i2 ⟨rfl, ?_⟩)
  rw [← lexF_eq, ← i1.length, ← i2.length, Array.length_toList, Array.length_toList]
theorem firsts_ints {h : Heap} : ∀ {vs : List Value}, (∀ v ∈ vs, ∃ ns, TS.TupInts h v ns ∧ ns ≠ []) → ∃ fs : List Value, PySem.W.KatTups h vs fs ∧ fs.length = vs.length ∧ ∀ f ∈ fs, ∃ x t, f = Value.int x t
  | [], _ => ⟨[], PySem.W.KatTups.nil, rfl, fun _ hm => by simp at hm⟩
  | v :: vs, hp => by
    obtain ⟨fs, h1, h2, h3⟩ := firsts_ints (vs := vs) fun v' hm => hp v' (List.mem_cons_of_mem _ hm)
    obtain ⟨ns, ⟨a, xs, e, ⟨o, ho, hc, n, hd⟩, i⟩, ne⟩ := hp v (List.mem_cons_self ..)
    subst e
    cases hx : xs.toList with
    | nil => rw [hx] at i; cases i; exact absurd rfl ne
    | cons y ys =>
      rw [hx] at i
      cases i with
      | cons m t r =>
        refine ⟨.int m t :: fs, PySem.W.KatTups.cons ho hc hd (by rw [← Array.getElem?_toList, hx]; rfl) h1, by rw [List.length_cons, List.length_cons, h2], fun f hm => ?_⟩
        rcases List.mem_cons.mp hm with rfl | hm
        · exact ⟨m, t, rfl⟩
        · exact h3 f hm
theorem tups_sortableO {a : Addr} {vs : List Value} {k : Value → List Int} (h0 : 0 < vs.length) (hp : ∀ v ∈ vs, TS.TupInts s.heap v (k v)) (hne : ∀ v ∈ vs, k v ≠ []) (ha : ∀ o, s.heap.get? a = some o → o.cls ≠ .type "tuple") : SortableO prog w A s a vs fun v u => HT.lexLt (k v) (k u) := by
  intro h' keep
  have hp' : ∀ v ∈ vs, TS.TupInts h' v (k v) := fun v hm => (hp v hm).keeps fun b o e c => keep b o (fun z => by subst z; exact ha o e c) e
  obtain ⟨fs, h1, h2, h3⟩ := firsts_ints fun v hm => ⟨_, hp' v hm, hne v hm⟩
  refine ⟨tuples' true, fun Q E hq => ?_, tup_cmp hp'⟩
  refine PySem.W.kat_kind (T := .type "int") h1 (by omega) (fun f hm => ?_) (by rfl) ?_
  · obtain ⟨x, t, rfl⟩ := h3 f hm
    exact PySem.W.Looks.now
  · have e : (Value.type "int" != Value.type "tuple") = true := by first | decide +kernel | rfl | decide
    rw [e]
    exact hq
end
section
variable {P : Program} {w : World} {A : Around} {E : Value → Shared → Prop} {s : Shared}
theorem sorted_setU {a : Addr} {L : List (Addr × List Int)} {es : Array (Int × Value)} {ep : Nat} {t : SetTable} {Q : Value → Shared → Prop} (R : SetTR P w s.heap a L es ep t) (hh : A.handled = none) (hne : ∀ p ∈ L, p.2 ≠ [])
    (hQ : ∀ s' p (out : Array Value) (c : Nat) (L' : List (Addr × List Int)), (∀ b o, s.heap.get? b = some o → s'.heap.get? b = some o) → s'.gens = s.gens → s'.os = s.os → s.heap.objs.size ≤ p →
      s'.heap.get? p = some (seqObj "list" out c) → out.toList = L'.map (fun q => Value.ref q.1) → L'.Perm L → Q (.ref p) s') :
    wpAny (model P w) A (call (.builtin "sorted") [.ref a]) Q E s := by
  obtain ⟨o, ho, hex, hd⟩ := R.ob
  have hsz := R.size
  have hfew := R.few
  refine Calls.call_function_entry kind_sorted plain_sorted entry_sorted (args_sorted1 _) ?_
  unfold Builtin.«sorted»
  refine wpAny_bind (m := checkCount "sorted" 1 1 _) (wpAny_pure ?_)
  refine wpAny_bind (collect_set (A := A.in1) hh ⟨o, ho, hex.1, hd⟩ R.fits (by unfold scanBound; omega) R.tab.ris R.led fun s1 vs k1 hz g1 o1 pm => ?_)
  have hes : es.toList.map (·.2) = L.map fun q => Value.ref q.1 := by
    rw [R.rows]
    unfold rowsOf
    rw [List.map_map] <;> rfl
  rw [hes] at pm
  have ord : ∀ vs : List Value, (∀ v ∈ vs, ∃ q ∈ L, v = Value.ref q.1) → ∃ L1 : List (Addr × List Int), vs = L1.map (fun q => Value.ref q.1) ∧ ∀ q ∈ L1, q ∈ L := by
    intro vs
    induction vs with
    | nil => intro _; exact ⟨[], rfl, fun q hq => (by cases hq)⟩
    | cons v vs ih =>
      intro hv
      obtain ⟨q, hq, e⟩ := hv v List.mem_cons_self
      obtain ⟨L1, e1, hs⟩ := ih fun u hu => hv u (List.mem_cons_of_mem _ hu)
      refine ⟨q :: L1, by rw [List.map_cons, e, e1], fun r hr => ?_⟩
      rcases List.mem_cons.mp hr with z | z
      · rw [z]; exact hq
      · exact hs r z
  have one : ∀ q ∈ L, ∀ r ∈ L, q.1 = r.1 → q = r := fun q hq r hr e => by
    have a1 := R.tup q hq
    have a2 := R.tup r hr
    rw [e] at a1
    have e2 : q.2 = r.2 := a1.inj a2
    exact Prod.ext e e2
  have perm_of : ∀ L1 : List (Addr × List Int), (∀ q ∈ L1, q ∈ L) → (L1.map (fun q => Value.ref q.1)).Perm (L.map fun q => Value.ref q.1) → L1.Perm L := by
    intro L1 hs pm1
    have nL : L.Nodup := nodup_of_map R.nd
    have nref : (L.map fun q => Value.ref q.1).Nodup := by
      refine List.pairwise_map.mpr (List.Pairwise.imp_of_mem (fun {q r} hq hr hne e => ?_) nL)
      injection e with e
      exact hne (one q hq r hr e)
    have n1 : L1.Nodup := nodup_of_map (pm1.nodup_iff.mpr nref)
    refine (List.perm_ext_iff_of_nodup n1 nL).mpr fun q => ⟨hs q, fun hq => ?_⟩
    have hm : Value.ref q.1 ∈ L1.map (fun q => Value.ref q.1) := pm1.mem_iff.mpr (List.mem_map.mpr ⟨q, hq, rfl⟩)
    obtain ⟨r, hr, e⟩ := List.mem_map.mp hm
    injection e with e
    rw [← one r (hs r hr) q hq e]
    exact hr
  have hvl : vs.length < 64 := by rw [pm.length_eq, List.length_map]; exact hfew
  refine wpAny_bind (wpAny_newList ?_ (by rw [sizeLine_eq]; omega))
  have hoL : (s1.heap.push (seqObj "list" vs.toArray 0)).get? s1.heap.objs.size = some (seqObj "list" vs.toArray 0) := Heap.get?_push_size _ rfl
  have tk : ∀ q ∈ L, TS.TupInts (s1.heap.push (seqObj "list" vs.toArray 0)) (.ref q.1) q.2 := fun q hq => tupInts_of (P := P) (w := w) (isT_keep (R.tup q hq) fun b u e => Heap.get?_push_of_some _ (k1 b u e))
  have x : ∀ v ∈ vs, TS.TupInts (s1.heap.push (seqObj "list" vs.toArray 0)) v (TS.intsOf (s1.heap.push (seqObj "list" vs.toArray 0)) v) ∧ TS.intsOf (s1.heap.push (seqObj "list" vs.toArray 0)) v ≠ [] := fun v hv => by
    obtain ⟨q, hq, e⟩ := List.mem_map.mp (pm.mem_iff.mp hv)
    rw [← e, (tk q hq).ints]
    exact ⟨tk q hq, hne q hq⟩
  refine wpAny_bind (wpAny_holding (wpAny_call_entry slot_list_sort ⟨_, hoL, rfl⟩ entry_list_sort (list_sort_ord (s := { s1 with heap := s1.heap.push (seqObj "list" vs.toArray 0) }) (swo_lexI (TS.intsOf (s1.heap.push (seqObj "list" vs.toArray 0)))) hoL (by rw [sizeLine_eq]; omega)
    (fun h2 => tups_sortableO (by omega) (fun v hv => (x v hv).1) (fun v hv => (x v hv).2) fun o e => ?_) fun out a1 a2 => ⟨_, rfl, ?_⟩) (args_list_sort _)))
  · have e' : some o = some (seqObj "list" vs.toArray 0) := e.symm.trans hoL
    cases e'
    intro c
    exact absurd (Value.type.inj c) (by decide)
  obtain ⟨c, hc⟩ := sortedHeap_at (vs := vs) (out := out.toArray) hoL
  obtain ⟨L', e', hs'⟩ := ord out fun v hv => by
    obtain ⟨q, hq, e⟩ := List.mem_map.mp (pm.mem_iff.mp (a2.perm.mem_iff.mp hv))
    exact ⟨q, hq, e.symm⟩
  have pL : L'.Perm L := perm_of L' hs' (by rw [← e']; exact a2.perm.trans pm)
  refine wpAny_pure ⟨_, rfl, hQ _ s1.heap.objs.size out.toArray c L' (fun b u e => ?_) g1 o1 hz hc e' pL⟩
  have q := k1 b u e
  have hlt := Heap.lt_size q
  show (sortedHeap (s1.heap.push (seqObj "list" vs.toArray 0)) s1.heap.objs.size vs out.toArray).get? b = some u
  rw [sortedHeap_old (Nat.ne_of_lt hlt) (by rw [size_push']; exact Nat.lt_succ_of_lt hlt)]
  exact Heap.get?_push_of_some _ q
end
section
variable {X : Cx}
/-- sorted(set), tuples of ints, none empty: some order of its own -/
def rSortedU (K : PySem.W.Frag) (P : Program) (w : World) : List V → Hp → VK → Prop := fun vs H Q => ∃ (a : Addr) (L : List (Addr × List Int)), vs = [V.ref a] ∧ H a = some (SetTO P w a L) ∧ (∀ p ∈ L, SqT K H p.1 (p.2.map V.int)) ∧ (∀ p ∈ L, p.2 ≠ []) ∧
  ∀ (L' : List (Addr × List Int)) (p : Addr), L'.Perm L → (L'.map (·.2)).Nodup → L'.length < 64 → H p = none → Q (.ref p) (upd H p (.lst (L'.map fun q => V.ref q.1)))
theorem cr_sortedU (hc : X.calm = true) : CallR X (.builtin "sorted") (rSortedU X.K X.prog X.w) := by
  intro pins s σ H vs us Q I r h
  obtain ⟨a, L, rfl, ha, hk, hn0, q⟩ := h
  have R0 : SetT0 X.prog X.w s.heap a L := (I.hok a _ ha).1
  obtain ⟨es, ep, t, R⟩ := R0.full fun p hp => I.isT (hk p hp)
  rw [Vals.ref1 r]
  refine sorted_setU R (I.ok.hd hc) hn0 fun s' p out c L' k g o hp hg hout pm => ?_
  have hfew : L'.length < 64 := by rw [pm.length_eq]; exact R.few
  have hlen : (L'.map fun q => V.ref q.1).length ≤ sizeLine := by rw [List.length_map, sizeLine_eq]; omega
  have hn : H p = none := I.hok.fresh hp
  have hv : Vals (L'.map fun q => V.ref q.1) out.toList := by rw [hout]; exact vals_of_refs L'
  have J : Inv X pins σ (upd H p (.lst (L'.map fun q => V.ref q.1))) { s with heap := s'.heap, gens := s'.gens, drawn := s'.drawn, toks := s'.toks } :=
    I.call (ch := []) (Un.laid k hp hn) (I.hok.laid k hp ⟨hlen, out.toList, c, hv, hg⟩) (by rw [g]; exact I.bare) (fun _ z => nomatch z)
  have e : s' = { s with heap := s'.heap, gens := s'.gens, drawn := s'.drawn, toks := s'.toks } := by
    cases s'
    cases s
    cases o
    rfl
  rw [e]
  exact ⟨.ref p, _, J, rfl, q L' p pm ((pm.map (·.2)).nodup_iff.mpr R.nd) hfew hn⟩
theorem kr_setOfT {K : PySem.W.Frag} {P : Program} {w : World} (hK : X.K = K) (hP : X.prog = P) (hw : X.w = w) (hc : X.calm = true) (hu : X.A.units + 64 < cLine) : CallR X (.type "set") (rSetOfT K P w) := by subst hK; subst hP; subst hw; exact cr_setOfT hc hu
theorem kr_sortU {K : PySem.W.Frag} {P : Program} {w : World} (hK : X.K = K) (hP : X.prog = P) (hw : X.w = w) (hc : X.calm = true) : CallR X (.builtin "sorted") (rSortedU K P w) := by subst hK; subst hP; subst hw; exact cr_sortedU hc
end
section
open Evl
abbrev tupI (ns : List Int) : D := .tup (ns.map D.int)
theorem rps_tups {K : PySem.W.Frag} {H : Hp} : ∀ {xs : List (List Int)} {vs : List V}, Rps K H (xs.map tupI) vs → ∃ ks : List (Addr × List Int), vs = ks.map (fun p => V.ref p.1) ∧ ks.map (·.2) = xs ∧ ∀ p ∈ ks, H p.1 = some (.tup (p.2.map V.int))
  | [], vs, h => by
    have e : vs = [] := by unfold List.map Rps at h; exact h
    subst e
    exact ⟨[], rfl, rfl, fun p hp => by cases hp⟩
  | x :: xs, vs, h => by
    obtain ⟨v, r, rfl, h2, h3⟩ := (show ∃ v r, vs = v :: r ∧ Rp K H (tupI x) v ∧ Rps K H (xs.map tupI) r by unfold List.map Rps at h; exact h)
    obtain ⟨ks, e1, e2, e3⟩ := rps_tups h3
    obtain ⟨a, ws, rfl, q1, q2⟩ := (show ∃ a ws, v = V.ref a ∧ H a = some (.tup ws) ∧ Rps K H (x.map D.int) ws by unfold tupI Rp at h2; exact h2)
    have q3 := q2.ints
    subst q3
    refine ⟨(a, x) :: ks, by rw [e1]; rfl, by rw [List.map_cons, e2], fun p hp => ?_⟩
    rcases List.mem_cons.mp hp with z | z
    · subst z; exact q1
    · exact e3 p z
theorem rps_of_tups {K : PySem.W.Frag} {H : Hp} : ∀ (ks : List (Addr × List Int)), (∀ p ∈ ks, H p.1 = some (.tup (p.2.map V.int))) → Rps K H ((ks.map (·.2)).map tupI) (ks.map fun p => V.ref p.1)
  | [], _ => rfl
  | p :: ks, h => by
    refine ⟨_, _, rfl, ?_, rps_of_tups ks fun q hq => h q (List.mem_cons_of_mem _ hq)⟩
    show Rp K H (tupI p.2) (V.ref p.1)
    unfold tupI Rp
    exact ⟨_, _, rfl, h p (by simp), rps_ints _ _⟩
/-- sorted(set(xs)), xs a list of tuples of ints -/
theorem evo_sortsetT {P : Program} {w : World} {K : PySem.W.Frag} {S : List M} {ta : TE} {R : D → List M → Prop} {xs : List (List Int)} (ha : EvB K ta S (.lst (xs.map tupI))) (hl : xs.length < 64) (hne : ∀ s ∈ xs, s ≠ [])
    (r : ∀ ys : List (List Int), ys.Nodup → (∀ s, s ∈ ys ↔ s ∈ xs) → ys.length < 64 → R (.lst (ys.map tupI)) S) : EvO K (tCB (rSortedU K P w) (tCons (tCB (rSetOfT K P w) (tCons ta tNil)) tNil)) S R := fun Pn pl G H0 H σ Rr Q q =>
  ha Pn pl G H0 H σ Rr _ fun v H01 H1 g1 e1 R1 p1 => by
    obtain ⟨a, vs, rfl, h1, h2⟩ := p1.lst R1.e0
    obtain ⟨ks, rfl, k2, k3⟩ := rps_tups h2
    refine ⟨a, ks, rfl, sq_of h1, fun p hp => st_of (R1.e0 _ _ (k3 p hp)), by rw [← k2, List.length_map] at hl; exact hl, fun b L hb hL1 hL2 => ?_⟩
    obtain ⟨R2, _, _, _, e2⟩ := R1.new_own (o := SetTO P w b L) hb
    refine ⟨b, L, rfl, upd_same, fun p hp => st_of (e2 _ _ (R1.e0 _ _ (k3 p (hL1 p hp)))), fun p hp => hne p.2 (by rw [← k2]; exact List.mem_map_of_mem (hL1 p hp)), fun L' c pm nd h64 hc => ?_⟩
    obtain ⟨R3, a1, b1, c1, e3⟩ := R2.new_own (o := .lst (L'.map fun q => V.ref q.1)) hc
    refine q (.lst ((L'.map (·.2)).map tupI)) S c H01 _ (r _ nd (fun s => ⟨fun hs => ?_, fun hs => ?_⟩) (by rw [List.length_map]; exact h64)) g1 R3 a1 b1 c1 ⟨_, upd_same, rps_of_tups L' fun p hp => k3 p (hL1 p (pm.mem_iff.mp hp))⟩
    · obtain ⟨p, hp, rfl⟩ := List.mem_map.mp hs
      rw [← k2]
      exact List.mem_map_of_mem (hL1 p (pm.mem_iff.mp hp))
    · rw [← k2] at hs
      obtain ⟨p, hp, rfl⟩ := List.mem_map.mp hs
      obtain ⟨p', hp', e⟩ := List.mem_map.mp (hL2 p hp)
      exact List.mem_map.mpr ⟨p', pm.mem_iff.mpr hp', e⟩
end
theorem k_revL {X : Cx} {K : PySem.W.Frag} {e : Expr} {te : TE} {k : Nat} {p1 p2 p3 pos : Pos} (hK : X.K = K) (he : PE X e te) : PE X (.Subscript e (.Slice none none (some (.UnaryOp .USub (.Constant (.int 1) k p1) p2)) p3) pos) (tRevL K te) := by subst hK; exact pe_revL he
end Dl
/-! dict of pairs, list(range(a, b)), slices with a part that changes things. -/
namespace Dl
open PySem PySem.Spec PyProof.Rows L2 Evl
def rDictP (K : PySem.W.Frag) : List V → Hp → VK → Prop := fun xs H Q => ∃ (a : Addr) (ps : List Addr) (kvs : List (Key × V)), xs = [.ref a] ∧ SqL K H a (ps.map V.ref) ∧ Paired (fun p kv => SqT K H p [kV kv.1, kv.2]) ps kvs ∧ ∀ p, H p = none → Q (.ref p) (upd H p (.dK (mergeK [] kvs)))
theorem kr_dictP {X : Cx} {K : PySem.W.Frag} (hK : X.K = K) (hc : X.calm = true) : CallR X (.type "dict") (rDictP K) := by subst hK; exact call_dictP hc
section
variable {K : PySem.W.Frag} {S : List M} {ta tb te : TE} {R : D → List M → Prop}
/-- list(range(a, b)) -/
theorem evf_listRg {a b : Int} (ha : EvB K ta S (.int a)) (hb : EvB K tb S (.int b)) (h : RgOk a b) : EvF K (tLstRg (tRg2 ta tb)) S (.lst (rgD a (b - a).toNat)) := fun Pn pl G H0 H σ Rr Q q =>
  ha Pn pl G H0 H σ Rr _ fun v H01 H1 g1 e1 R1 p1 => hb Pn pl G H01 H1 σ R1 _ fun w H02 H2 g2 e2 R2 p2 => by
    refine ⟨a, b, p1.int, p2.int, h, fun p hp => ?_⟩
    obtain ⟨R3, n0, ng, ap, e3⟩ := R2.new_own (o := .lst (rgV a b)) hp
    refine q p H02 _ (g1.trans g2) ((e1.trans e2).trans e3) R3 n0 ng ap ⟨_, upd_same, ?_⟩
    have key : rgD a (b - a).toNat = ((List.range (b - a).toNat).map fun i => a + (i : Nat)).map D.int := by unfold rgD; rw [List.map_map]; rfl
    have key2 : rgV a b = ((List.range (b - a).toNat).map fun i => a + (i : Nat)).map V.int := by unfold rgV; rw [List.map_map]; rfl
    rw [key, key2]
    exact rps_ints _ _
/-- xs[:i], i reckoned by what may change things -/
theorem evo_sll_hi {th : TE} {xs : List D} (ha : EvP K te S (.lst xs)) (hh : EvN K th S fun d S1 => ∃ i : Int, d = .int i ∧ R (.lst (cutD xs none (some i))) S1) : EvO K (tSl (slU K) te tNoPart (tPart th)) S R := fun Pn pl G H0 H σ Rr Q q =>
  ha Pn pl G H0 H σ Rr _ fun v H01 H1 g1 e1 R1 p1 => hh Pn pl G H01 H1 σ R1 _ fun d S3 w H03 H3 ⟨i, ei, r⟩ g3 R3 p3 => by
    subst ei
    refine ⟨i, p3, ?_⟩
    obtain ⟨a, vs, rfl, k1, k2⟩ := (show Rb K H03 H3 (.lst xs) v from .inl (Rp.mono g3.ex _ _ p1)).lst R3.e0
    refine .inl ⟨a, vs, rfl, sq_of k1, fun p hp => ?_⟩
    obtain ⟨R4, a1, b1, c1, e4⟩ := R3.new_own (o := .lst (cutV vs none (some i))) hp
    refine q _ S3 p H03 _ r (g1.trans g3) R4 a1 b1 c1 ⟨_, upd_same, ?_⟩
    unfold cutV cutD
    rw [← k2.length]
    exact (k2.drop _).take _
theorem evn_slt_hi {th : TE} {xs : List D} (ha : EvP K te S (.tup xs)) (hh : EvN K th S fun d S1 => ∃ i : Int, d = .int i ∧ R (.tup (cutD xs none (some i))) S1) : EvN K (tSl (slU K) te tNoPart (tPart th)) S R := fun Pn pl G H0 H σ Rr Q q =>
  ha Pn pl G H0 H σ Rr _ fun v H01 H1 g1 e1 R1 p1 => hh Pn pl G H01 H1 σ R1 _ fun d S3 w H03 H3 ⟨i, ei, r⟩ g3 R3 p3 => by
    subst ei
    refine ⟨i, p3, ?_⟩
    obtain ⟨a, vs, rfl, k0, k1, k2⟩ := (show Rb K H03 H3 (.tup xs) v from .inl (Rp.mono g3.ex _ _ p1)).tup R3.e0
    refine .inr ⟨a, vs, rfl, st_of k1, fun hw => ?_, fun hw p hp => ?_⟩
    · refine q _ S3 _ H03 H3 r (g1.trans g3) R3 ⟨a, vs, rfl, k0, ?_⟩
      rw [← k2.length] at hw
      have e : cutD xs none (some i) = xs := by
        unfold cutD
        rw [hw.1, hw.2, List.drop_zero, Nat.sub_zero, List.take_length]
      rw [e]; exact k2
    · obtain ⟨g4, e4, R4⟩ := R3.lay (o := .tup (cutV vs none (some i))) hp
      refine q _ S3 _ _ _ r ((g1.trans g3).trans g4) R4 ⟨p, _, rfl, upd_same, Rps.mono g4.ex _ _ ?_⟩
      unfold cutV cutD
      rw [← k2.length]
      exact (k2.drop _).take _
theorem putK_new {acc : List (Key × V)} {k : Key} {v : V} (h : k ∉ acc.map (·.1)) : putK acc k v = acc ++ [(k, v)] := by
  unfold putK
  rw [if_neg]
  rw [List.any_eq_true]
  rintro ⟨p, hp, e⟩
  exact h (List.mem_map.mpr ⟨p, hp, of_decide_eq_true e⟩)
theorem mergeK_nd : ∀ (more acc : List (Key × V)), ((acc ++ more).map (·.1)).Nodup → mergeK acc more = acc ++ more
  | [], acc, _ => by rw [List.append_nil]; rfl
  | (k, v) :: more, acc, h => by
    have e : mergeK acc ((k, v) :: more) = mergeK (putK acc k v) more := rfl
    have hk : k ∉ acc.map (·.1) := fun z => by
      rw [List.map_append, List.map_cons, List.nodup_append] at h
      exact h.2.2 k z k (by simp) rfl
    rw [e, putK_new hk, mergeK_nd more (acc ++ [(k, v)]) (by simpa using h)]
    simp
theorem rps_dict {H : Hp} : ∀ {ps : List (Int × Int)} {vs : List V}, Rps K H (ps.map pairD) vs → ∃ as : List Addr, vs = as.map V.ref ∧ ∀ H', Ex H H' → Paired (fun (p : Addr) (kv : Key × V) => SqT K H' p [kV kv.1, kv.2]) as (ps.map fun p => (Sum.inl p.1, V.int p.2))
  | [], vs, h => by
    have e : vs = [] := by unfold List.map Rps at h; exact h
    subst e
    exact ⟨[], rfl, fun _ _ => .nil⟩
  | p :: ps, vs, h => by
    obtain ⟨v, r, rfl, h2, h3⟩ := (show ∃ v r, vs = v :: r ∧ Rp K H (pairD p) v ∧ Rps K H (ps.map pairD) r by unfold List.map Rps at h; exact h)
    obtain ⟨as, e1, e2⟩ := rps_dict h3
    obtain ⟨a, ws, rfl, q1, q2⟩ := (show ∃ a ws, v = V.ref a ∧ H a = some (.tup ws) ∧ Rps K H [.int p.1, .int p.2] ws by unfold Rp at h2; exact h2)
    have q3 : ws = [V.int p.1, V.int p.2] := Rps.ints (ns := [p.1, p.2]) q2
    subst q3
    exact ⟨a :: as, by rw [e1]; rfl, fun H' e => .cons (st_of (e _ _ q1)) (e2 H' e)⟩
/-- dict(xs), xs a list of pairs of ints, the first ones apart -/
theorem evo_dictP (ha : EvN K ta S fun d S1 => ∃ ps : List (Int × Int), d = .lst (ps.map pairD) ∧ (ps.map (·.1)).Nodup ∧ R (.dk (ps.map fun p => Sum.inl p.1) (ps.map fun p => .int p.2)) S1) : EvO K (tCB (rDictP K) (tCons ta tNil)) S R := fun Pn pl G H0 H σ Rr Q q =>
  ha Pn pl G H0 H σ Rr _ fun d S1 v H01 H1 ⟨ps, ed, nd, r⟩ g1 R1 p1 => by
    subst ed
    obtain ⟨a, vs, rfl, k1, k2⟩ := (show ∃ a vs, v = V.ref a ∧ H01 a = some (.lst vs) ∧ Rps K H01 (ps.map pairD) vs by unfold Rp at p1; exact p1)
    obtain ⟨as, rfl, k3⟩ := rps_dict k2
    refine ⟨a, as, _, rfl, sq_of (R1.e0 _ _ k1), k3 H1 R1.e0, fun p hp => ?_⟩
    have em : mergeK [] (ps.map fun p => ((Sum.inl p.1 : Key), V.int p.2)) = ps.map fun p => ((Sum.inl p.1 : Key), V.int p.2) := by
      rw [mergeK_nd, List.nil_append]
      rw [List.nil_append, List.map_map]
      have e : ((fun (x : Key × V) => x.1) ∘ fun (p : Int × Int) => ((Sum.inl p.1 : Key), V.int p.2)) = Sum.inl ∘ fun p => p.1 := rfl
      rw [e, ← List.map_map]
      exact List.pairwise_map.mpr (nd.imp fun h z => h (Sum.inl.inj z))
    rw [em]
    obtain ⟨R2, n0, ng, ap, e2⟩ := R1.new_own (o := .dK (ps.map fun p => ((Sum.inl p.1 : Key), V.int p.2))) hp
    refine q _ S1 p H01 _ r g1 R2 n0 ng ap ⟨(ps.map (·.2)).map V.int, ?_, by simp, ?_⟩
    · rw [upd_same]
      congr 1
      rw [List.map_map, List.zip_map', ]
      rfl
    · have e3 : (ps.map fun p => D.int p.2) = (ps.map (·.2)).map D.int := by rw [List.map_map]; rfl
      rw [e3]
      exact rps_ints _ _
end
end Dl
/-! Hitting sets in plain Lean: what the walk of hitting.py rests on. -/
namespace HM
def costOf (pr : Int → Int) (c : List Int) : Int := (c.map pr).sum
def Hits (ss : List (List Int)) (T : List Int) : Prop := ∀ s ∈ ss, ∃ t ∈ s, t ∈ T
/-- a choice of things -/
structure Feas (ss : List (List Int)) (U : List Int) (T : List Int) : Prop where
  nd : T.Nodup
  sub : ∀ t ∈ T, t ∈ U
  hits : Hits ss T
theorem cost_nil (pr : Int → Int) : costOf pr [] = 0 := rfl
theorem cost_cons (pr : Int → Int) (a : Int) (c : List Int) : costOf pr (a :: c) = pr a + costOf pr c := by simp [costOf]
theorem cost_app (pr : Int → Int) (a c : List Int) : costOf pr (a ++ c) = costOf pr a + costOf pr c := by simp [costOf, List.sum_append]
theorem cost_perm {pr : Int → Int} {a b : List Int} (h : List.Perm a b) : costOf pr a = costOf pr b := by
  unfold costOf
  induction h with
  | nil => rfl
  | cons x _ ih => simp [ih]
  | swap x y l => simp; omega
  | trans _ _ h1 h2 => rw [h1, h2]
theorem cost_nonneg {pr : Int → Int} : ∀ {T : List Int}, (∀ t ∈ T, 0 ≤ pr t) → 0 ≤ costOf pr T
  | [], _ => Int.le_refl _
  | a :: T, h => by
    rw [cost_cons]
    have h1 := h a (by simp)
    have h2 := cost_nonneg (T := T) fun t ht => h t (List.mem_cons_of_mem _ ht)
    omega
/-- a part costs no more -/
theorem sub_cost {pr : Int → Int} : ∀ {A T : List Int}, A.Nodup → (∀ t ∈ A, t ∈ T) → (∀ t ∈ T, 0 ≤ pr t) → costOf pr A ≤ costOf pr T
  | [], T, _, _, h => cost_nonneg h
  | a :: A, T, nd, hs, h => by
    have ha : a ∈ T := hs a (by simp)
    have p := List.perm_cons_erase ha
    rw [cost_perm p, cost_cons, cost_cons]
    have nd' := List.nodup_cons.mp nd
    have ih := sub_cost (A := A) (T := T.erase a) nd'.2 (fun t ht => by
      have hne : t ≠ a := fun e => nd'.1 (e ▸ ht)
      exact (List.mem_erase_of_ne hne).mpr (hs t (List.mem_cons_of_mem _ ht))) fun t ht => h t (List.mem_of_mem_erase ht)
    omega
theorem filter_split {pr : Int → Int} (p q : Int → Bool) : ∀ T : List Int, (∀ t ∈ T, ¬ (p t = true ∧ q t = true)) → costOf pr (T.filter fun t => p t || q t) = costOf pr (T.filter p) + costOf pr (T.filter q)
  | [], _ => rfl
  | a :: T, h => by
    have ih := filter_split (pr := pr) p q T fun t ht => h t (List.mem_cons_of_mem _ ht)
    have h1 := h a (by simp)
    simp only [List.filter_cons]
    cases hp : p a <;> cases hq : q a <;> simp_all [cost_cons] <;> omega
theorem nd_len : ∀ {A B : List Int}, A.Nodup → (∀ t ∈ A, t ∈ B) → A.length ≤ B.length
  | [], B, _, _ => Nat.zero_le _
  | a :: A, B, nd, hs => by
    have ha : a ∈ B := hs a (by simp)
    have nd' := List.nodup_cons.mp nd
    have ih := nd_len (A := A) (B := B.erase a) nd'.2 fun t ht => by
      have hne : t ≠ a := fun e => nd'.1 (e ▸ ht)
      exact (List.mem_erase_of_ne hne).mpr (hs t (List.mem_cons_of_mem _ ht))
    have hl := List.length_erase_of_mem ha
    have hp := List.length_pos_of_mem ha
    simp only [List.length_cons]
    omega
/-! the bound of floor -/
structure FI (pr : Int → Int) (U chosen barred : List Int) (pre : List (List Int)) (met : List Int) (found : Int) : Prop where
  apart : ∀ t ∈ met, t ∉ chosen
  low : ∀ T, Feas pre U T → (∀ t ∈ chosen, t ∈ T) → (∀ t ∈ T, t ∉ barred) → found ≤ costOf pr (T.filter fun t => decide (t ∈ chosen) || decide (t ∈ met))
theorem FI.start {pr : Int → Int} {U chosen barred : List Int} (hp : ∀ t ∈ U, 0 ≤ pr t) (nd : chosen.Nodup) : FI pr U chosen barred [] [] (costOf pr chosen) := by
  refine ⟨fun t h => by simp at h, fun T F hc _ => sub_cost nd (fun t ht => ?_) fun t ht => hp t (F.sub t ((List.mem_filter.mp ht).1))⟩
  rw [List.mem_filter]
  exact ⟨hc t ht, by simp [ht]⟩
theorem Hits.left {a b : List (List Int)} {T : List Int} (h : Hits (a ++ b) T) : Hits a T := fun s hs => h s (List.mem_append_left _ hs)
theorem FI.skip {pr : Int → Int} {U chosen barred : List Int} {pre : List (List Int)} {met : List Int} {found : Int} (h : FI pr U chosen barred pre met found) (s : List Int) : FI pr U chosen barred (pre ++ [s]) met found :=
  ⟨h.apart, fun T F hc hb => h.low T ⟨F.nd, F.sub, F.hits.left⟩ hc hb⟩
theorem FI.count {pr : Int → Int} {U chosen barred : List Int} {pre : List (List Int)} {met met' : List Int} {found m : Int} (h : FI pr U chosen barred pre met found) (hp : ∀ t ∈ U, 0 ≤ pr t) (s free : List Int) (hf : ∀ t, t ∈ free ↔ t ∈ s ∧ t ∉ barred)
    (hc : ∀ t ∈ s, t ∉ chosen) (hm : ∀ t ∈ free, t ∉ met) (hmet : ∀ t, t ∈ met' ↔ t ∈ met ∨ t ∈ free) (hmin : ∀ t ∈ free, m ≤ pr t) : FI pr U chosen barred (pre ++ [s]) met' (found + m) := by
  refine ⟨fun t ht => ?_, fun T F hcT hb => ?_⟩
  · rcases (hmet t).mp ht with h1 | h1
    · exact h.apart t h1
    · exact hc t ((hf t).mp h1).1
  · have h1 := h.low T ⟨F.nd, F.sub, F.hits.left⟩ hcT hb
    obtain ⟨t0, hs0, hT0⟩ := F.hits s (by simp)
    have hfree : t0 ∈ free := (hf t0).mpr ⟨hs0, hb t0 hT0⟩
    have e : (T.filter fun t => decide (t ∈ chosen) || decide (t ∈ met')) = T.filter fun t => (decide (t ∈ chosen) || decide (t ∈ met)) || decide (t ∈ free) := by
      apply List.filter_congr
      intro t _
      by_cases a : t ∈ chosen <;> by_cases b : t ∈ met <;> by_cases c : t ∈ free <;> simp [a, b, c, hmet]
    rw [e, filter_split]
    · have h2 : m ≤ costOf pr (T.filter fun t => decide (t ∈ free)) := by
        have h3 : costOf pr [t0] ≤ costOf pr (T.filter fun t => decide (t ∈ free)) := sub_cost (by simp) (fun t ht => by
          rw [List.mem_singleton] at ht
          rw [ht, List.mem_filter]
          exact ⟨hT0, by simp [hfree]⟩) fun t ht => hp t (F.sub t ((List.mem_filter.mp ht).1))
        have h4 := hmin t0 hfree
        rw [cost_cons, cost_nil] at h3
        omega
      omega
    · intro t _ ⟨a, b⟩
      have b' : t ∈ free := of_decide_eq_true b
      rcases Bool.or_eq_true_iff.mp a with a | a
      · exact hc t ((hf t).mp b').1 (of_decide_eq_true a)
      · exact hm t b' (of_decide_eq_true a)
/-- nothing free: no choice is left -/
theorem FI.none {pr : Int → Int} {U chosen barred : List Int} {pre : List (List Int)} {met met' : List Int} {found found' : Int} (h : FI pr U chosen barred pre met found) (s free : List Int) (hf : ∀ t, t ∈ free ↔ t ∈ s ∧ t ∉ barred) (he : free = []) (hmet : ∀ t, t ∈ met' ↔ t ∈ met ∨ t ∈ free) : FI pr U chosen barred (pre ++ [s]) met' found' := by
  refine ⟨fun t ht => ?_, fun T F hc hb => ?_⟩
  · rcases (hmet t).mp ht with h1 | h1
    · exact h.apart t h1
    · rw [he] at h1; cases h1
  · obtain ⟨t0, hs0, hT0⟩ := F.hits s (by simp)
    have := (hf t0).mpr ⟨hs0, hb t0 hT0⟩
    rw [he] at this; cases this
/-- a lower bound of what goes on from here -/
def Low (pr : Int → Int) (ss : List (List Int)) (U chosen barred : List Int) (v : Int) : Prop := ∀ T, Feas ss U T → (∀ t ∈ chosen, t ∈ T) → (∀ t ∈ T, t ∉ barred) → v ≤ costOf pr T
theorem FI.done {pr : Int → Int} {U chosen barred : List Int} {ss : List (List Int)} {met : List Int} {found : Int} (h : FI pr U chosen barred ss met found) (hp : ∀ t ∈ U, 0 ≤ pr t) : Low pr ss U chosen barred found := fun T F hc hb =>
  Int.le_trans (h.low T F hc hb) (sub_cost (F.nd.filter _) (fun t ht => (List.mem_filter.mp ht).1) fun t ht => hp t (F.sub t ht))
theorem ex_min : ∀ {l : List Int}, l ≠ [] → ∃ m, m ∈ l ∧ ∀ y, y ∈ l → m ≤ y
  | [], h => absurd rfl h
  | [a], _ => ⟨a, by simp, fun y hy => by rw [List.mem_singleton] at hy; rw [hy]; exact Int.le_refl _⟩
  | a :: b :: l, _ => by
    obtain ⟨m, h1, h2⟩ := ex_min (l := b :: l) (by simp)
    by_cases q : a ≤ m
    · exact ⟨a, by simp, fun y hy => (List.mem_cons.mp hy).elim (fun e => by rw [e]; exact Int.le_refl _) fun z => Int.le_trans q (h2 y z)⟩
    · exact ⟨m, List.mem_cons_of_mem _ h1, fun y hy => (List.mem_cons.mp hy).elim (fun e => by omega) fun z => h2 y z⟩
/-! the search -/
/-- the best choice so far -/
def BestOk (pr : Int → Int) (ss : List (List Int)) (U : List Int) : Option (List Int) → Option Int → Prop
  | none, none => True
  | some b, some l => b.Pairwise (· < ·) ∧ Feas ss U b ∧ l = costOf pr b
  | _, _ => False
def LeO (a b : Option Int) : Prop := ∀ v, b = some v → ∃ u, a = some u ∧ u ≤ v
theorem LeO.refl (a : Option Int) : LeO a a := fun v h => ⟨v, h, Int.le_refl _⟩
theorem LeO.trans {a b c : Option Int} (h : LeO a b) (k : LeO b c) : LeO a c := fun v e => by
  obtain ⟨u, e1, h1⟩ := k v e
  obtain ⟨w, e2, h2⟩ := h u e1
  exact ⟨w, e2, Int.le_trans h2 h1⟩
def Cov (pr : Int → Int) (ss : List (List Int)) (U : List Int) (l : Option Int) (Pr : List Int → Prop) : Prop := ∀ T, Feas ss U T → Pr T → ∃ v, l = some v ∧ v ≤ costOf pr T
theorem Cov.le {pr : Int → Int} {ss : List (List Int)} {U : List Int} {l l' : Option Int} {Pr : List Int → Prop} (h : Cov pr ss U l Pr) (k : LeO l' l) : Cov pr ss U l' Pr := fun T F p => by
  obtain ⟨v, e, hv⟩ := h T F p
  obtain ⟨u, e2, hu⟩ := k v e
  exact ⟨u, e2, Int.le_trans hu hv⟩
abbrev Goes (chosen barred : List Int) (T : List Int) : Prop := (∀ t ∈ chosen, t ∈ T) ∧ ∀ t ∈ T, t ∉ barred
/-- what is not decided yet -/
def undec (U chosen barred : List Int) : List Int := U.filter fun t => !(decide (t ∈ chosen) || decide (t ∈ barred))
theorem mem_undec {U chosen barred : List Int} {t : Int} : t ∈ undec U chosen barred ↔ t ∈ U ∧ t ∉ chosen ∧ t ∉ barred := by
  unfold undec
  rw [List.mem_filter]
  simp
theorem undec_step {U chosen barred pre : List Int} {t : Int} (ndU : U.Nodup) (h : (pre ++ [t]).Nodup) (hs : ∀ x ∈ pre ++ [t], x ∈ undec U chosen barred) : (undec U (chosen ++ [t]) (barred ++ pre)).length + pre.length + 1 ≤ (undec U chosen barred).length := by
  have nd2 : (undec U chosen barred).Nodup := ndU.filter _
  have nd3 : (undec U (chosen ++ [t]) (barred ++ pre) ++ (pre ++ [t])).Nodup := by
    rw [List.nodup_append]
    refine ⟨ndU.filter _, h, fun a ha b hb e => ?_⟩
    subst e
    have h1 := mem_undec.mp ha
    rcases List.mem_append.mp hb with h2 | h2
    · exact h1.2.2 (List.mem_append_right _ h2)
    · exact h1.2.1 (List.mem_append_right _ h2)
  have sub : ∀ x ∈ undec U (chosen ++ [t]) (barred ++ pre) ++ (pre ++ [t]), x ∈ undec U chosen barred := fun x hx => by
    rcases List.mem_append.mp hx with h1 | h1
    · have := mem_undec.mp h1
      exact mem_undec.mpr ⟨this.1, fun z => this.2.1 (List.mem_append_left _ z), fun z => this.2.2 (List.mem_append_left _ z)⟩
    · exact hs x h1
  have := nd_len nd3 sub
  simp only [List.length_append, List.length_singleton] at this
  omega

theorem pow_le {a b : Nat} (h : a ≤ b) : (2 : Int) ^ a ≤ 2 ^ b := by
  have : (2 : Nat) ^ a ≤ 2 ^ b := Nat.pow_le_pow_right (by decide) h
  exact_mod_cast this
theorem pow_pos (a : Nat) : (1 : Int) ≤ 2 ^ a := by
  have : 1 ≤ (2 : Nat) ^ a := Nat.one_le_two_pow
  exact_mod_cast this
theorem pow_step {u p : Nat} (h : p + 1 ≤ u) : (2 : Int) ^ (u - p) = 2 * 2 ^ (u - (p + 1)) := by
  rw [show u - p = (u - (p + 1)) + 1 by omega, Int.pow_succ]
  omega
/-- what the search's step needs of its bounds -/
theorem grow {u p v : Nat} {k k2 n : Int} (h : p + 1 ≤ u) (hv : v + p + 1 ≤ u) (hk : k + 2 ^ (u - p) ≤ n + 2 ^ u) (h2 : k2 ≤ k + 2 ^ v) : k2 + 2 ^ (u - (p + 1)) ≤ n + 2 ^ u := by
  have e := pow_step h
  have l := pow_le (show v ≤ u - (p + 1) by omega)
  generalize (2 : Int) ^ (u - (p + 1)) = x at *
  generalize (2 : Int) ^ (u - p) = y at *
  generalize (2 : Int) ^ v = z at *
  generalize (2 : Int) ^ u = w at *
  omega
theorem room {u p v : Nat} {k n m : Int} (h : p + 1 ≤ u) (hv : v + p + 1 ≤ u) (hk : k + 2 ^ (u - p) ≤ n + 2 ^ u) (hn : n + 2 ^ u ≤ m + 1) : k + 2 ^ v ≤ m := by
  have e := pow_step h
  have l := pow_le (show v ≤ u - (p + 1) by omega)
  have q := pow_pos (u - (p + 1))
  generalize (2 : Int) ^ (u - (p + 1)) = x at *
  generalize (2 : Int) ^ (u - p) = y at *
  generalize (2 : Int) ^ v = z at *
  generalize (2 : Int) ^ u = w at *
  omega
theorem last_ {u p : Nat} {k n : Int} (hk : k + 2 ^ (u - p) ≤ n + 2 ^ u) : k + 1 ≤ n + 2 ^ u := by
  have q := pow_pos (u - p)
  generalize (2 : Int) ^ (u - p) = y at *
  generalize (2 : Int) ^ u = w at *
  omega
/-! trees -/
inductive Tr where
  | leaf
  | node (at_ : Int) (bs : List (Int × Tr))
mutual
def Tr.size : Tr → Nat
  | .leaf => 1
  | .node _ bs => 1 + Tr.sizes bs
def Tr.sizes : List (Int × Tr) → Nat
  | [] => 0
  | (_, t) :: bs => t.size + Tr.sizes bs
end
mutual
def Tr.depth : Tr → Nat
  | .leaf => 0
  | .node _ bs => 1 + Tr.depths bs
def Tr.depths : List (Int × Tr) → Nat
  | [] => 0
  | (_, t) :: bs => max t.depth (Tr.depths bs)
end
/-- the sets' things that are not barred -/
def freeOf (s barred : List Int) : List Int := s.filter fun t => !decide (t ∈ barred)
def nodeOk (ss : List (List Int)) (at_ : Int) (things chosen barred : List Int) : Bool :=
  decide (0 ≤ at_) && decide (at_ < ss.length) && match ss[at_.toNat]? with
    | some s => (!s.any fun t => decide (t ∈ chosen)) && decide (Dl.isort things = Dl.isort (freeOf s barred))
    | none => false
mutual
def chk (ss : List (List Int)) (pr : Int → Int) (low : Int) : Tr → List Int → List Int → Bool
  | .leaf, chosen, _ => decide (low ≤ costOf pr chosen)
  | .node at_ bs, chosen, barred => nodeOk ss at_ (bs.map (·.1)) chosen barred && chks ss pr low bs chosen barred
def chks (ss : List (List Int)) (pr : Int → Int) (low : Int) : List (Int × Tr) → List Int → List Int → Bool
  | [], _, _ => true
  | (t, b) :: bs, chosen, barred => chk ss pr low b (chosen ++ [t]) barred && chks ss pr low bs chosen (barred ++ [t])
end
/-- a place on the stack -/
abbrev Pl := Tr × List Int × List Int
def plSize (st : List Pl) : Nat := (st.map fun p => p.1.size).sum
/-- what a node lays on the stack, in turn -/
def lay : List (Int × Tr) → List Int → List Int → List Pl
  | [], _, _ => []
  | (t, b) :: bs, chosen, barred => (b, chosen ++ [t], barred) :: lay bs chosen (barred ++ [t])
def plChk (ss : List (List Int)) (pr : Int → Int) (low : Int) (p : Pl) : Bool := chk ss pr low p.1 p.2.1 p.2.2
theorem chks_lay (ss : List (List Int)) (pr : Int → Int) (low : Int) : ∀ (bs : List (Int × Tr)) (c b : List Int), chks ss pr low bs c b = (lay bs c b).all (plChk ss pr low)
  | [], c, b => by simp [chks, lay]
  | (t, x) :: bs, c, b => by
    simp only [chks, lay, List.all_cons, chks_lay ss pr low bs c (b ++ [t])]
    rfl
theorem lay_size : ∀ (bs : List (Int × Tr)) (c b : List Int), plSize (lay bs c b) = Tr.sizes bs
  | [], c, b => by simp [lay, plSize, Tr.sizes]
  | (t, x) :: bs, c, b => by
    have := lay_size bs c (b ++ [t])
    simp only [plSize] at this
    simp only [lay, plSize, List.map_cons, List.sum_cons, Tr.sizes, this]
theorem size_pos (t : Tr) : 0 < t.size := by cases t <;> simp [Tr.size] <;> omega
theorem chks_append (ss : List (List Int)) (pr : Int → Int) (low : Int) : ∀ (bs : List (Int × Tr)) (t : Int) (x : Tr) (c b : List Int), chks ss pr low (bs ++ [(t, x)]) c b = (chks ss pr low bs c b && chk ss pr low x (c ++ [t]) (b ++ bs.map (·.1)))
  | [], t, x, c, b => by simp [chks]
  | (t', x') :: bs, t, x, c, b => by
    rw [List.cons_append, chks, chks, chks_append ss pr low bs t x c (b ++ [t']), Bool.and_assoc]
    simp
theorem sizes_append : ∀ (bs : List (Int × Tr)) (t : Int) (x : Tr), Tr.sizes (bs ++ [(t, x)]) = Tr.sizes bs + x.size
  | [], t, x => by simp [Tr.sizes]
  | (t', x') :: bs, t, x => by
    rw [List.cons_append, Tr.sizes, Tr.sizes, sizes_append bs t x]; omega
theorem depths_append : ∀ (bs : List (Int × Tr)) (t : Int) (x : Tr), Tr.depths (bs ++ [(t, x)]) = max (Tr.depths bs) x.depth
  | [], t, x => by simp [Tr.depths]
  | (t', x') :: bs, t, x => by
    rw [List.cons_append, Tr.depths, Tr.depths, depths_append bs t x]; omega
theorem lay_append : ∀ (bs : List (Int × Tr)) (t : Int) (x : Tr) (c b : List Int), lay (bs ++ [(t, x)]) c b = lay bs c b ++ [(x, c ++ [t], b ++ bs.map (·.1))]
  | [], t, x, c, b => by simp [lay]
  | (t', x') :: bs, t, x, c, b => by
    rw [List.cons_append, lay, lay, lay_append bs t x c (b ++ [t'])]
    simp
theorem lay_mem : ∀ (bs : List (Int × Tr)) (c b : List Int) (q : Pl), q ∈ lay bs c b → ∃ t ∈ bs.map (·.1), q.2.1 = c ++ [t] ∧ q.1.size ≤ Tr.sizes bs ∧ q.1.depth ≤ Tr.depths bs ∧ q.2.2.length + q.1.size ≤ b.length + Tr.sizes bs
  | [], c, b, q, h => by simp [lay] at h
  | (t, x) :: bs, c, b, q, h => by
    rw [lay] at h
    rcases List.mem_cons.mp h with e | h
    · subst e
      refine ⟨t, by simp, rfl, ?_, ?_, ?_⟩ <;> simp only [Tr.sizes, Tr.depths] <;> omega
    · obtain ⟨t', h1, h2, h3, h4, h5⟩ := lay_mem bs c (b ++ [t]) q h
      rw [List.length_append, List.length_singleton] at h5
      have := size_pos x
      refine ⟨t', List.mem_cons_of_mem _ h1, h2, ?_, ?_, ?_⟩ <;> simp only [Tr.sizes, Tr.depths] <;> omega
theorem plSize_append (a b : List Pl) : plSize (a ++ b) = plSize a + plSize b := by simp [plSize, List.sum_append]
theorem plSize_len : ∀ st : List Pl, st.length ≤ plSize st
  | [] => Nat.zero_le _
  | p :: st => by
    have := plSize_len st
    have := size_pos p.1
    simp only [plSize, List.map_cons, List.sum_cons, List.length_cons] at *
    omega
theorem isort_iff {a b : List Int} : Dl.isort a = Dl.isort b ↔ List.Perm a b := ⟨fun e => (Dl.isort_perm a).symm.trans (e ▸ Dl.isort_perm b), fun p => Dl.isort_eq p⟩
/-- what stands on the stack -/
structure PlOk (U : List Int) (p : Pl) : Prop where
  sub : ∀ x ∈ p.2.1, x ∈ U
  cl : p.2.1.length + p.1.size ≤ 5000
  bl : p.2.2.length + p.1.size ≤ 5000
  dp : p.1.depth ≤ 18
theorem PlOk.lay {U c b : List Int} {a : Int} {bs : List (Int × Tr)} (h : PlOk U (.node a bs, c, b)) (hU : ∀ t ∈ bs.map (·.1), t ∈ U) : ∀ q ∈ lay bs c b, PlOk U q := fun q hq => by
  obtain ⟨t, h1, h2, h3, h4, h5⟩ := lay_mem bs c b q hq
  have k1 := h.cl
  have k2 := h.bl
  have k3 := h.dp
  simp only [Tr.size, Tr.depth] at k1 k2 k3
  refine ⟨fun x hx => ?_, ?_, by omega, by omega⟩
  · rw [h2] at hx
    rcases List.mem_append.mp hx with z | z
    · exact h.sub x z
    · rw [List.mem_singleton] at z; rw [z]; exact hU t h1
  · rw [h2, List.length_append, List.length_singleton]; omega
theorem chk_leaf (ss : List (List Int)) (pr : Int → Int) (low : Int) (c b : List Int) : plChk ss pr low (.leaf, c, b) = decide (low ≤ costOf pr c) := by
  unfold plChk chk; rfl
theorem chk_node (ss : List (List Int)) (pr : Int → Int) (low a : Int) (bs : List (Int × Tr)) (c b : List Int) : plChk ss pr low (.node a bs, c, b) = (nodeOk ss a (bs.map (·.1)) c b && (lay bs c b).all (plChk ss pr low)) := by
  rw [← chks_lay]
  show chk ss pr low (.node a bs) c b = _
  rw [chk]
end HM
namespace HM
/-! every choice of some things -/
def lots (xs : List Int) : List (List Int) := xs.foldl (fun f t => f ++ f.map (· ++ [t])) [[]]
theorem lots_nil : lots [] = [[]] := rfl
theorem lots_snoc (xs : List Int) (t : Int) : lots (xs ++ [t]) = lots xs ++ (lots xs).map (· ++ [t]) := by
  unfold lots; rw [List.foldl_append]; rfl
theorem snoc_ind {α : Type} {p : List α → Prop} (h0 : p []) (h1 : ∀ l a, p l → p (l ++ [a])) : ∀ l, p l := fun l => by
  have : ∀ n (l : List α), l.length = n → p l := fun n => by
    induction n with
    | zero => intro l h; rw [List.length_eq_zero_iff.mp h]; exact h0
    | succ n ih =>
      intro l h
      rcases List.eq_nil_or_concat l with e | ⟨l', a, e⟩
      · subst e; cases h
      · rw [List.concat_eq_append] at e
        subst e
        exact h1 l' a (ih l' (by simpa using h))
  exact this l.length l rfl
theorem lots_len (xs : List Int) : (lots xs).length = 2 ^ xs.length := by
  refine snoc_ind (p := fun xs => (lots xs).length = 2 ^ xs.length) rfl (fun l a h => ?_) xs
  rw [lots_snoc, List.length_append, List.length_map, h, List.length_append, List.length_singleton, Nat.pow_succ]
  omega
theorem lots_mem_len (xs : List Int) : ∀ s ∈ lots xs, s.length ≤ xs.length := by
  refine snoc_ind (p := fun xs => ∀ s ∈ lots xs, s.length ≤ xs.length) (fun s hs => ?_) (fun l a h s hs => ?_) xs
  · rw [lots_nil, List.mem_singleton] at hs; subst hs; exact Nat.le_refl _
  · rw [lots_snoc] at hs
    rw [List.length_append, List.length_singleton]
    rcases List.mem_append.mp hs with z | z
    · have := h s z; omega
    · obtain ⟨u, hu, rfl⟩ := List.mem_map.mp z
      have := h u hu
      rw [List.length_append, List.length_singleton]; omega
/-- just the sublists -/
theorem lots_iff (xs : List Int) : ∀ s, s ∈ lots xs ↔ List.Sublist s xs := by
  refine snoc_ind (p := fun xs => ∀ s, s ∈ lots xs ↔ List.Sublist s xs) (fun s => ?_) (fun l a h s => ?_) xs
  · rw [lots_nil, List.mem_singleton, List.sublist_nil]
  · rw [lots_snoc, List.mem_append, List.mem_map, h]
    constructor
    · rintro (z | ⟨u, hu, rfl⟩)
      · exact z.trans (List.sublist_append_left _ _)
      · exact ((h u).mp hu).append (List.Sublist.refl _)
    · intro z
      obtain ⟨s1, s2, rfl, h1, h2⟩ := List.sublist_append_iff.mp z
      rcases List.eq_nil_or_concat s2 with e | ⟨u, b, e⟩
      · subst e; rw [List.append_nil]; exact .inl h1
      · rw [List.concat_eq_append] at e
        subst e
        have hl := h2.length_le
        simp at hl
        subst hl
        have := h2.subset (List.mem_singleton.mpr rfl : b ∈ [] ++ [b])
        rw [List.mem_singleton] at this
        subst this
        exact .inr ⟨s1, (h s1).mpr h1, rfl⟩
/-! changed trees -/
theorem sizes_app : ∀ a b : List (Int × Tr), Tr.sizes (a ++ b) = Tr.sizes a + Tr.sizes b
  | [], b => by simp [Tr.sizes]
  | (t, x) :: a, b => by rw [List.cons_append]; simp only [Tr.sizes, sizes_app a b]; omega
theorem depths_app : ∀ a b : List (Int × Tr), Tr.depths (a ++ b) = max (Tr.depths a) (Tr.depths b)
  | [], b => by simp [Tr.depths]
  | (t, x) :: a, b => by rw [List.cons_append]; simp only [Tr.depths, depths_app a b]; omega
theorem sizes_rev : ∀ a : List (Int × Tr), Tr.sizes a.reverse = Tr.sizes a
  | [] => rfl
  | (t, x) :: a => by rw [List.reverse_cons, sizes_app, sizes_rev a]; simp only [Tr.sizes]; omega
theorem depths_rev : ∀ a : List (Int × Tr), Tr.depths a.reverse = Tr.depths a
  | [] => rfl
  | (t, x) :: a => by rw [List.reverse_cons, depths_app, depths_rev a]; simp only [Tr.depths]; omega
end HM
namespace K73
open PySem L2 Evl PyProof.Rows Dl
/-! words -/
local macro_rules | `(tactic| walk_at "v") => `(tactic| first
  | with_reducible exact v_add | with_reducible exact v_sub | with_reducible exact v_lt | with_reducible exact v_le | with_reducible exact v_gt | with_reducible exact v_ge | with_reducible exact v_eqi | with_reducible exact v_nei
  | with_reducible exact v_sum | with_reducible exact v_any | with_reducible exact v_all | with_reducible exact v_lenl | with_reducible exact v_lent | with_reducible exact v_tupl | with_reducible exact v_tupt | with_reducible exact v_listl | with_reducible exact v_listt
  | ((with_reducible refine' v_min ?a ?b); (case a => assumption); (case b => assumption))
  | with_reducible exact v_mulR (by decide) (by decide) | with_reducible exact v_mod (by decide) | with_reducible exact v_mod (by assumption) | with_reducible exact v_fdvR (by assumption) (by assumption) | with_reducible exact v_powR (by decide) (by decide) (by decide)
  | with_reducible exact v_eqbl | with_reducible exact v_nebl
  | ((with_reducible refine' v_isi ?h ?k); (case h => exact rfl); (case k => exact rfl))
  | with_reducible exact v_sortI | with_reducible exact v_sortPm
  | ((with_reducible refine' v_ixt ?h); (case h => assumption))
  | ((with_reducible refine' v_ixl ?h); (case h => assumption))
  | ((with_reducible refine' v_ixt ?h); (case h => exact rfl))
  | ((with_reducible refine' v_ixl ?h); (case h => exact rfl))
  | with_reducible exact v_in_ints | with_reducible exact v_nin_ints | with_reducible exact v_in_intst | with_reducible exact v_nin_intst | with_reducible exact v_abs | with_reducible exact v_int | with_reducible exact v_is | with_reducible exact v_isn)
local macro_rules | `(tactic| walk_at "rd") => `(tactic| first | assumption | exact ro_rd (by assumption) | exact ro_rd (ro_rd (by assumption)) | exact rfl)
local macro_rules | `(tactic| walk_at "ev") => `(tactic| first
  | ((with_reducible refine' evp_var ?h); (case h => exact rfl))
  | ((with_reducible refine' evb_varo ?h); (case h => exact rfl))
  | ((with_reducible refine' evb_varb ?h); (case h => exact rfl))
  | ((with_reducible refine' evb_var ?h); (case h => exact rfl))
  | ((with_reducible refine' evb_rd ?a ?b); (case a => exact rfl); (case b => walk_at "rd"))
  | with_reducible exact evp_int | with_reducible exact evp_bl | with_reducible exact evp_str | with_reducible exact evp_non
  | ((with_reducible refine' EvP.b ?h); (case h => walk_at "ev"))
  | ((with_reducible refine' evp_fld ?c ?n ?a ?l); (case c => assumption); (case n => assumption); (case a => walk_at "ev"); (case l => exact rfl))
  | ((with_reducible refine' evp_ix ?a ?b ?r); (case a => walk_at "ev"); (case b => walk_at "ev"); (case r => walk_at "v"))
  | ((with_reducible refine' evp_dgeti ?a ?b ?l); (case a => walk_at "ev"); (case b => walk_at "ev"); (case l => solve_by_elim))
  | ((with_reducible refine' evp_dgeti2 ?a ?b ?x ?l); (case a => walk_at "ev"); (case b => walk_at "ev"); (case x => walk_at "ev"); (case l => solve_by_elim))
  | ((with_reducible refine' evf_sortset ?a ?n ?s ?m); (case a => walk_at "ev"); (case n => solve_by_elim); (case s => solve_by_elim); (case m => solve_by_elim))
  | ((with_reducible refine' evp_chain ?a ?b ?r ?c ?s); (case a => walk_at "ev"); (case b => walk_at "ev"); (case r => walk_at "v"); (case c => (intro hb; walk_at "ev")); (case s => (intro hb; walk_at "v")))
  | ((with_reducible refine' evp_andV ?a ?b); (case a => walk_at "ev"); (case b => (intro hb; walk_at "ev")))
  | ((with_reducible refine' evp_in ?a ?b ?r); (case a => walk_at "ev"); (case b => walk_at "ev"); (case r => walk_at "v"))
  | ((with_reducible refine' evp_dini ?a ?b); (case a => walk_at "ev"); (case b => walk_at "ev"))
  | ((with_reducible refine' evp_nin ?a ?b ?r); (case a => walk_at "ev"); (case b => walk_at "ev"); (case r => walk_at "v"))
  | ((with_reducible refine' evp_op ?a ?b ?r); (case a => walk_at "ev"); (case b => walk_at "ev"); (case r => walk_at "v"))
  | ((with_reducible refine' evp_then ?a ?r); (case a => walk_at "ev"); (case r => walk_at "v"))
  | ((with_reducible refine' evp_cb ?a ?r); (case a => walk_at "ev"); (case r => walk_at "v"))
  | ((with_reducible refine' evf_cb ?a ?r); (case a => walk_at "ev"); (case r => walk_at "v"))
  | ((with_reducible refine' EvF.p ?h); (case h => walk_at "ev"))
  | ((with_reducible refine' evf_lcA ?w ?l ?t); (case w => walk_at "wk"); (case l => walk_at "sz"); (case t => (intro a ha; refine' ⟨_, gt_name, ?y⟩; (case y => walk_at "ev"))))
  | ((with_reducible refine' evf_lc ?w ?l ?t); (case w => walk_at "wk"); (case l => walk_at "sz"); (case t => (intro a ha; refine' ⟨_, gt_name, ?x, fun hp => ?y⟩; (case x => walk_at "ev"); (case y => walk_at "ev"))))
  | ((with_reducible refine' tpp_B ?h); (case h => walk_at "ev"))
  | ((with_reducible refine' tpp_test ?h); (case h => walk_at "ev"))
  | ((with_reducible refine' tpp_not ?h); (case h => walk_at "ev"))
  | ((with_reducible refine' tpp_and ?a ?b); (case a => walk_at "ev"); (case b => (intro hb; walk_at "ev")))
  | ((with_reducible refine' tpp_or ?a ?b); (case a => walk_at "ev"); (case b => (intro hb; walk_at "ev")))
  | ((with_reducible refine' tpp_tr ?a ?b); (case a => walk_at "ev"); (case b => exact rfl))
  | with_reducible exact evp_ty
  | ((with_reducible refine' evp_cb2 ?a ?b ?r); (case a => walk_at "ev"); (case b => walk_at "ev"); (case r => walk_at "v"))
  | ((with_reducible refine' evp_orV ?a ?b); (case a => walk_at "ev"); (case b => (intro hb; walk_at "ev")))
  | ((with_reducible refine' evp_notV ?a); (case a => walk_at "ev"))
  | with_reducible exact app_nil
  | ((with_reducible refine' app_cons ?a ?b); (case a => walk_at "ev"); (case b => walk_at "ev"))
  | ((with_reducible refine' evp_tup ?a ?b); (case a => walk_at "ev"); (case b => first | exact (by decide) | exact (by simp)))
  | ((with_reducible refine' evf_lst ?a ?b); (case a => walk_at "ev"); (case b => first | exact (by decide) | exact (by simp)))
  | with_reducible exact evf_dnewK)
local macro_rules | `(tactic| walk_at "wk") => `(tactic| first
  | ((with_reducible refine' wkp_lst ?h); (case h => walk_at "ev"))
  | ((with_reducible refine' wkb_lst ?h); (case h => walk_at "ev"))
  | ((with_reducible refine' wkp_tupb ?h); (case h => walk_at "ev"))
  | ((with_reducible refine' WkP.b ?h); (case h => walk_at "wk")))
local macro_rules | `(tactic| walk_at "sz") => `(tactic| first | assumption | omega | (simp only [List.length_map, List.length_append, List.length_cons, List.length_nil]; omega))
def top (i : Nat) : Stmt := PySem.Challenge.pw_coresprice_k73_whole_things_that_are_hit.main.body.getD i (.Pass ⟨0, 0, 0, 0⟩)
structure Txt (K : PySem.W.Frag) (mg : PySem.Str → Option Value) (CH : Addr) : Prop where
  cl_Hitter : Cls K CH
  f_sets : NoAttr K CH "sets"
  f_prices : NoAttr K CH "prices"
  f_best : NoAttr K CH "best"
  f_least : NoAttr K CH "least"
  f_nodes : NoAttr K CH "nodes"
  n_sum : mg "sum" = none
  n_any : mg "any" = none
  n_min : mg "min" = none
  n_enumerate : mg "enumerate" = none
  n_list : mg "list" = none
  n_tuple : mg "tuple" = none
  n_sorted : mg "sorted" = none
  n_len : mg "len" = none
  n_range : mg "range" = none
  n_dict : mg "dict" = none
  n_set : mg "set" = none
  n_int : mg "int" = none
  n_all : mg "all" = none
  n_isinstance : mg "isinstance" = none
  n_str : mg "str" = none
  n_bool : mg "bool" = none
  g_MOST_NODES : ∃ t, mg "MOST_NODES" = some (.int 20000 t)

/-! data -/
structure Hit where
  sets : List (List Int)
  U : List Int
  pr : Int → Int
  best : Option (List Int)
  least : Option Int
  nodes : Int
def intL (ns : List Int) : D := .lst (ns.map D.int)
def intT (ns : List Int) : D := .tup (ns.map D.int)
def setsD (ss : List (List Int)) : D := .lst (ss.map fun s => .tup (s.map D.int))
def priD (U : List Int) (pr : Int → Int) : D := .dk (U.map fun t => Sum.inl t) (U.map fun t => .int (pr t))
def bestD : Option (List Int) → D
  | none => .non
  | some b => .tup (b.map D.int)
def leastD : Option Int → D
  | none => .non
  | some b => .int b
abbrev hitN : List PySem.Str := ["sets", "prices", "best", "least", "nodes"]
abbrev hitX (h : Hit) : List D := [.lst (h.sets.map fun s => .tup (s.map D.int)), .dk (h.U.map fun t => Sum.inl t) (h.U.map fun t => .int (h.pr t)), bestD h.best, leastD h.least, .int h.nodes]
abbrev hitD (CH : Addr) (h : Hit) : D := .ins CH hitN (hitX h)
open HM
structure HitOk (h : Hit) : Prop where
  ndU : h.U.Nodup
  pos : ∀ t ∈ h.U, 1 ≤ h.pr t
  sub : ∀ s ∈ h.sets, ∀ t ∈ s, t ∈ h.U
  nds : ∀ s ∈ h.sets, s.Nodup
  ulen : h.U.length ≤ 10
  slen : h.sets.length ≤ 100
section
variable {P : Program} {w : World} {K : PySem.W.Frag} {mg : PySem.Str → Option Value} {base : Heap} {CH : Addr}
abbrev s_Hitter_cost : Stmt := inClass (top 6) 1
theorem sc_Hitter_cost : FnScope ["self", "chosen", "thing"] ["self", "chosen"] (defScope s_Hitter_cost) := ⟨rfl, rfl, rfl, by decide +kernel, rfl, by decide +kernel, by decide +kernel⟩
def ct_cost (CH : Addr) : Ct := fun S R => ∃ (h : Hit) (c : List Int) (m : M), S = [.o (hitD CH h), m] ∧ m.rd (.lst (c.map D.int)) ∧ (∀ t ∈ c, t ∈ h.U) ∧ c.length ≤ 1000 ∧ R (.int (costOf h.pr c)) [.o (hitD CH h), .no]
theorem c_cost (F : MethAt K CH "cost" "Hitter.cost" s_Hitter_cost ["self", "chosen"]) (T : Txt K mg CH) : MCal P w K mg base CH "cost" 1 ["self", "chosen"] (spD K (ct_cost CH)) := by
  refine okM F sc_Hitter_cost (fun S R h => ?_) fun f cdv A outer s H E hr => ?_
  · obtain ⟨h, c, m, rfl, _⟩ := h; rfl
  have hu1 := hu1_of hr
  have hu64 := hu64_of hr
  have hu65 := hu65_of hr
  refine ⟨_, (by exact (pss_one (by exact (ps_ret (by exact (k_callB (kr_sum (K := K) rfl rfl) (by rfl) T.n_sum (by decide +kernel) (by exact (pa_cons (by exact (pe_lc (own := [("thing", 2)]) rfl sc_Hitter_cost.nd (by exact (k_sq (K := K) rfl (by exact (pv 1)))) (blkOk_by (own := [("thing", 2)]) (by kernel_rfl)) (by intros; exact (by exact (pg_name (i := 2) sc_Hitter_cost.nd rfl (Or.inl rfl)))) (by intros; exact pts_nil) (by intros; exact (by exact (k_sub (K := K) rfl hu1 (by exact (k_fld (K := K) rfl (by exact (pv 0)) rfl)) (by exact (pv 2)) (fun _ _ => rfl) (fun _ _ => rfl)))) (by intro _; rfl))) pa_nil (by rfl))) (by decide) (by decide) (by rfl) (by rfl))))))), fun S R h => ?_⟩
  obtain ⟨h, c, m, rfl, hm, hU, hl, hR⟩ := h
  have t1 := T.cl_Hitter; have t2 := T.f_sets; have t3 := T.f_prices
  have hp : ∀ a, a ∈ h.U → lkD (h.U.map fun t => (Sum.inl t : Key)) (h.U.map fun t => D.int (h.pr t)) (Sum.inl a) = some (.int (h.pr a)) := fun a ha => lk_fun h.U _ ha
  refine ⟨[0], by decide, fun i hi m' hm' => by simp at hi; subst hi; cases hm'; rfl, ?_⟩
  refine st_ret (EvP.n (d := .int (costOf h.pr c)) ?_ ⟨by show 2 ≤ 3; decide, hR⟩)
  refine' EvP.is ?hh ?ee
  case hh =>
   walk_at "ev"
  case ee => rfl
end
open PySem L2 Evl PyProof.Rows Dl HM

section
variable {P : Program} {w : World} {K : PySem.W.Frag} {mg : PySem.Str → Option Value} {base : Heap} {CH : Addr}
abbrev s_Hitter_floor : Stmt := inClass (top 6) 2
theorem sc_Hitter_floor : FnScope ["self", "chosen", "barred", "found", "met", "own", "free", "thing"] ["self", "chosen", "barred"] (defScope s_Hitter_floor) := ⟨rfl, rfl, rfl, by decide +kernel, rfl, by decide +kernel, by decide +kernel⟩
def ct_floor (CH : Addr) : Ct := fun S R => ∃ (h : Hit) (c b : List Int) (m1 m2 : M), S = [.o (hitD CH h), m1, m2] ∧ m1.rd (.lst (c.map D.int)) ∧ m2.rd (.lst (b.map D.int)) ∧ (∀ t ∈ c, t ∈ h.U) ∧ c.Nodup ∧ c.length ≤ 1000 ∧ b.length ≤ 1000 ∧ HitOk h ∧
  ∀ v, Low h.pr h.sets h.U c b v → (Hits h.sets c → v = costOf h.pr c) → R (.int v) [.o (hitD CH h), .no, .no]
theorem c_floor (F : MethAt K CH "floor" "Hitter.floor" s_Hitter_floor ["self", "chosen", "barred"]) (T : Txt K mg CH) (c_Hitter_cost : MCal P w K mg base CH "cost" 1 ["self", "chosen"] (spD K (ct_cost CH))) : MCal P w K mg base CH "floor" 2 ["self", "chosen", "barred"] (spD K (ct_floor CH)) := by
  refine okM F sc_Hitter_floor (fun S R h => ?_) fun f cdv A outer s H E hr => ?_
  · obtain ⟨h, c, b, m1, m2, rfl, _⟩ := h; rfl
  have hu1 := hu1_of hr
  have hu64 := hu64_of hr
  have hu65 := hu65_of hr
  refine ⟨_, (by exact (pss_cons (by exact (ps_set (i := 3) sc_Hitter_floor.nd rfl (Or.inl rfl) (by exact (pe_mcal (by exact (pv 0)) T.cl_Hitter c_Hitter_cost (hr.mono (by first | decide | omega)) (by exact (pa_cons (by exact (pv 1)) pa_nil (by rfl)))))))
      (by exact (pss_cons (by exact (ps_set (i := 4) sc_Hitter_floor.nd rfl (Or.inr rfl) (by exact pe_dnewK)))
      (by exact (pss_cons (by exact (ps_for PassesOwn.never rfl (by exact (k_sq (K := K) rfl (by exact (k_fld (K := K) rfl (by exact (pv 0)) rfl)))) (by exact (pg_name (i := 5) sc_Hitter_floor.nd rfl (Or.inl rfl))) (by exact (pss_cons (by exact (ps_setLc (i := 6) (own := [("thing", 7)]) rfl sc_Hitter_floor.nd rfl rfl (sw_true rfl rfl rfl (by decide +kernel)) (by exact (k_sq (K := K) rfl (by exact (pv 5)))) (blkOk_by (own := [("thing", 7)]) (by kernel_rfl)) (by intros; exact (by exact (pg_name (i := 7) sc_Hitter_floor.nd rfl (Or.inl rfl)))) (by intros; exact pts_one (by exact (kt_nin (K := K) rfl hu65 (by exact (pv 7)) (by exact (pv 2)) (by rfl)))) (by intros; exact (by exact (pv 7)))))
      (by exact (pss_one (by exact (ps_if (by exact (PW.pt (by exact (by exact (pw_and (by exact (pt_not (by exact (k_tr (K := K) rfl (by exact (k_callB (kr_any (K := K) rfl rfl) (by rfl) T.n_any (by decide +kernel) (by exact (pa_cons (by exact (pe_lc (own := [("thing", 7)]) rfl sc_Hitter_floor.nd (by exact (k_sq (K := K) rfl (by exact (pv 5)))) (blkOk_by (own := [("thing", 7)]) (by kernel_rfl)) (by intros; exact (by exact (pg_name (i := 7) sc_Hitter_floor.nd rfl (Or.inl rfl)))) (by intros; exact pts_nil) (by intros; exact (by exact (k_in (K := K) rfl hu65 (by exact (pv 7)) (by exact (pv 1)) (by rfl)))) (by intro _; rfl))) pa_nil (by rfl))) (by decide) (by decide) (by rfl) (by rfl))) (fun _ => rfl))))) (by exact (pw_and1 (by exact (pt_not (by exact (k_tr (K := K) rfl (by exact (k_callB (kr_any (K := K) rfl rfl) (by rfl) T.n_any (by decide +kernel) (by exact (pa_cons (by exact (pe_lc (own := [("thing", 7)]) rfl sc_Hitter_floor.nd (by exact (k_sq (K := K) rfl (by exact (pv 6)))) (blkOk_by (own := [("thing", 7)]) (by kernel_rfl)) (by intros; exact (by exact (pg_name (i := 7) sc_Hitter_floor.nd rfl (Or.inl rfl)))) (by intros; exact pts_nil) (by intros; exact (by exact (k_in (K := K) rfl hu65 (by exact (pv 7)) (by exact (pv 4)) (by rfl)))) (by intro _; rfl))) pa_nil (by rfl))) (by decide) (by decide) (by rfl) (by rfl))) (fun _ => rfl)))))))))))) (by exact (pss_cons (by exact (ps_for PassesOwn.never rfl (by exact (k_sq (K := K) rfl (by exact (pv 6)))) (by exact (pg_name (i := 7) sc_Hitter_floor.nd rfl (Or.inl rfl))) (by exact (pss_one (by exact (ps_dput hu1 (by exact (pv 4)) (by exact (pv 7)) (by exact pe_bl) rfl))))))
      (by exact (pss_one (by exact (ps_if (by exact (k_tr (K := K) rfl (by exact (pv 6)) (fun _ => rfl))) (by exact (pss_one (by exact (ps_set (i := 3) sc_Hitter_floor.nd rfl (Or.inl rfl) (by exact (k_add (K := K) rfl (by exact (pv 3)) (by exact (k_callB (kr_min (K := K) rfl rfl) (by rfl) T.n_min (by decide +kernel) (by exact (pa_cons (by exact (pe_lc (own := [("thing", 7)]) rfl sc_Hitter_floor.nd (by exact (k_sq (K := K) rfl (by exact (pv 6)))) (blkOk_by (own := [("thing", 7)]) (by kernel_rfl)) (by intros; exact (by exact (pg_name (i := 7) sc_Hitter_floor.nd rfl (Or.inl rfl)))) (by intros; exact pts_nil) (by intros; exact (by exact (k_sub (K := K) rfl hu1 (by exact (k_fld (K := K) rfl (by exact (pv 0)) rfl)) (by exact (pv 7)) (fun _ _ => rfl) (fun _ _ => rfl)))) (by intro _; rfl))) pa_nil (by rfl))) (by decide) (by decide) (by rfl) (by rfl))))))))) pss_nil)))))) pss_nil))))))))
      (by exact (pss_one (by exact (ps_ret (by exact (pv 3)))))))))))), fun S R h => ?_⟩
  obtain ⟨h, c, b, m1, m2, rfl, hm1, hm2, hU, hnd, hl1, hl2, ok, hR⟩ := h
  have t1 := T.cl_Hitter; have t2 := T.f_sets; have t3 := T.f_prices
  clear hu1 hu64 hu65 hr F T
  have hp : ∀ a, a ∈ h.U → lkD (h.U.map fun t => (Sum.inl t : Key)) (h.U.map fun t => D.int (h.pr t)) (Sum.inl a) = some (.int (h.pr a)) := fun a ha => lk_fun h.U _ ha
  refine ⟨[0], by decide, fun i hi m' hm' => by simp at hi; subst hi; cases hm'; rfl, ?_⟩
  refine st_imp (show slot0 _ [M.o (hitD CH h), m1, m2] = [M.o (hitD CH h), m1, m2, .no, .no, .no, .no, .no] from rfl) ?_
  refine st_seq (st_set (by decide) (evn_meth (m := .o (hitD CH h)) rfl ⟨hitN, hitX h, rfl, rfl, by decide +kernel⟩ (arn_b rfl hm1 (arn_nil ⟨by simp [arChk, arOne, slots, ndB, Ar.slot?, M.own, arV, rdB_of hm1, List.filterMap_cons], h, c, m1.toB, rfl, rd_toB hm1, hU, hl1, ?_⟩))))
  show StN K [0] _ [M.o (hitD CH h), m1, m2, .d (.int (costOf h.pr c)), .no, .no, .no, .no] _
  refine st_seq (st_setF (by decide) evf_dnewK ?_)
  show StN K [0] _ [M.o (hitD CH h), m1, m2, .d (.int (costOf h.pr c)), .o (.dk (kI []) (([] : List Int).map fun _ => .bl true)), .no, .no, .no] _
  refine st_seq (st_forT (vs := [5]) (xs := h.sets) (f := fun s => D.tup (s.map D.int))
    (fun pre S' => ∃ (found : Int) (met : List Int) (a5 a6 a7 : M), S' = [M.o (hitD CH h), m1, m2, .d (.int found), .o (.dk (kI met) (met.map fun _ => .bl true)), a5, a6, a7] ∧ met.Nodup ∧ (∀ t ∈ met, t ∈ h.U) ∧ FI h.pr h.U c b pre met found ∧ (Hits pre c → found = costOf h.pr c))
    ?wk (by decide) ?h0 ?ht ?hd)
  case wk => walk_at "wk"
  case h0 => exact ⟨_, [], _, _, _, rfl, List.nodup_nil, fun t z => by simp at z, FI.start (fun t z => Int.le_trans (by decide) (ok.pos t z)) hnd, fun _ => rfl⟩
  case hd =>
    rintro S' ⟨found, met, a5, a6, a7, rfl, z1, z2, z3, z4⟩
    refine st_retP (d := .int found) (by walk_at "ev") ⟨by show 3 ≤ 8; decide, hR found (z3.done fun t z => Int.le_trans (by decide) (ok.pos t z)) z4⟩
  case ht =>
    rintro pre s post S' e ⟨found, met, a5, a6, a7, rfl, z1, z2, z3, z4⟩
    refine ⟨_, gt_name, ?_⟩
    have hs : s ∈ h.sets := by rw [e]; simp
    have hsl : s.length ≤ 10 := Nat.le_trans (nd_len (ok.nds s hs) (ok.sub s hs)) ok.ulen
    have sl2 : s.length ≤ 50000 := by omega
    refine st_seq (st_setF (d := .lst ((s.filter fun t => !decide (t ∈ b)).map D.int)) (by decide) ?fr ?nx)
    case fr => walk_at "ev"
    case nx =>
    obtain ⟨free, hfr⟩ : ∃ fr, (s.filter fun t => !decide (t ∈ b)) = fr := ⟨_, rfl⟩
    have hfm : ∀ t, t ∈ free ↔ t ∈ s ∧ t ∉ b := fun t => by rw [← hfr, List.mem_filter]; simp
    rw [hfr]
    have fl : free.length ≤ 10 := by rw [← hfr]; exact Nat.le_trans (List.length_filter_le _ _) hsl
    have fl2 : free.length ≤ 50000 := by omega
    show StN K [0] _ [M.o (hitD CH h), m1, m2, .d (.int found), .o (.dk (kI met) (met.map fun _ => .bl true)), .d (.tup (s.map D.int)), .o (.lst (free.map D.int)), a7] _
    refine' st_ifP ?tt ?h1 ?h2
    case tt => walk_at "ev"
    case h2 =>
      intro _
      exact st_nil ⟨found, met, _, _, _, rfl, z1, z2, z3.skip s, fun hh => z4 hh.left⟩
    case h1 =>
      intro hb
      rw [Bool.and_eq_true, Bool.not_eq_true', Bool.not_eq_true', List.any_eq_false, List.any_eq_false] at hb
      have q1 : ∀ t ∈ s, t ∉ c := fun t ht z => hb.1 t ht (decide_eq_true z)
      have q2 : ∀ t ∈ free, t ∉ met := fun t ht z => hb.2 t ht (by rw [lk_kI]; exact decide_eq_true z)
      have q3 : ¬ Hits (pre ++ [s]) c := fun hh => by
        obtain ⟨t, h1, h2⟩ := hh s (by simp)
        exact q1 t h1 h2
      have mlen : ∀ ms : List Int, ms.Nodup → (∀ t ∈ ms, t ∈ h.U) → ms.length < 100000 := fun ms n1 n2 => by have := nd_len n1 n2; have := ok.ulen; omega
      have frU : ∀ t ∈ free, t ∈ h.U := fun t ht => ok.sub s hs t ((hfm t).mp ht).1
      refine st_frz (i := 6) rfl rfl (by decide) ?_
      show StN K [0] _ [M.o (hitD CH h), m1, m2, .d (.int found), .o (.dk (kI met) (met.map fun _ => .bl true)), .d (.tup (s.map D.int)), .d (.lst (free.map D.int)), a7] _
      refine st_seq (st_forT (vs := [7]) (xs := free) (f := D.int)
        (fun pre S' => ∃ (ms : List Int) (a7 : M), S' = [M.o (hitD CH h), m1, m2, .d (.int found), .o (.dk (kI ms) (ms.map fun _ => .bl true)), .d (.tup (s.map D.int)), .d (.lst (free.map D.int)), a7] ∧ ms.Nodup ∧ (∀ t, t ∈ ms ↔ t ∈ met ∨ t ∈ pre))
        ?wk (by decide) ?h0 ?ht ?hd)
      case wk => walk_at "wk"
      case h0 => exact ⟨met, a7, rfl, z1, fun t => by simp⟩
      case ht =>
        rintro p t ps S' e2 ⟨ms, a7, rfl, y1, y2⟩
        refine ⟨_, gt_name, ?_⟩
        have htf : t ∈ free := by rw [e2]; simp
        refine st_dput ⟨_, _, rfl⟩ (evp_bl.n ⟨⟨_, _, rfl⟩, EvP.n (d := .int t) (by walk_at "ev") ⟨.inl t, _, _, rfl, rfl, ?l, ?k⟩⟩)
        case l =>
          rw [List.length_map]
          exact mlen ms y1 fun x hx => ((y2 x).mp hx).elim (z2 x) fun z => frU x (by rw [e2]; exact List.mem_append_left _ z)
        case k =>
          refine ⟨addKey ms t, .d (.int t), ?_, nd_addKey y1, fun x => by rw [mem_addKey, y2]; simp [or_assoc]⟩
          rw [pK_kI, pX_kI]
          rfl
      case hd =>
        rintro S' ⟨ms, a7, rfl, y1, y2⟩
        have msU : ∀ t ∈ ms, t ∈ h.U := fun x hx => ((y2 x).mp hx).elim (z2 x) (frU x)
        refine' st_ifP ?tt ?h1 ?h2
        case tt => walk_at "ev"
        case h2 =>
          intro hb
          have fe : free = [] := by
            cases free with
            | nil => rfl
            | cons a l => cases hb
          exact st_nil ⟨found, ms, _, _, _, rfl, y1, msU, z3.none s free hfm fe y2, fun hh => (q3 hh).elim⟩
        case h1 =>
          intro hb
          obtain ⟨m, k1, k2⟩ := ex_min (l := free.map h.pr) (fun z => by rw [List.map_eq_nil_iff] at z; rw [z] at hb; cases hb)
          refine st_setP (d := .int (found + m)) (by decide) ?ev ?nx
          case ev =>
            have frp : ∀ a, a ∈ free → lkD (h.U.map fun t => (Sum.inl t : Key)) (h.U.map fun t => D.int (h.pr t)) (Sum.inl a) = some (.int (h.pr a)) := fun a ha => hp a (frU a ha)
            clear hp
            walk_at "ev"
          case nx =>
            exact ⟨found + m, ms, _, _, _, rfl, y1, msU, z3.count (fun t z => Int.le_trans (by decide) (ok.pos t z)) s free hfm q1 q2 y2 fun t ht => k2 _ (List.mem_map_of_mem ht), fun hh => (q3 hh).elim⟩
end
open PySem L2 Evl PyProof.Rows Dl HM

section
variable {P : Program} {w : World} {K : PySem.W.Frag} {mg : PySem.Str → Option Value} {base : Heap} {CH : Addr}
theorem enD_get {α : Type} {xs : List α} {f : α → D} {i : Nat} {d : D} (h : (enD (xs.map f))[i]? = some d) : ∃ a, xs[i]? = some a ∧ d = .tup [.int (i : Nat), f a] := by
  unfold enD at h
  rw [List.getElem?_mapIdx, List.getElem?_map] at h
  cases q : xs[i]? with
  | none => rw [q] at h; cases h
  | some a => rw [q] at h; cases h; exact ⟨a, rfl, rfl⟩
abbrev s_Hitter_missed : Stmt := inClass (top 6) 3
theorem sc_Hitter_missed : FnScope ["self", "chosen", "at", "own", "thing"] ["self", "chosen"] (defScope s_Hitter_missed) := ⟨rfl, rfl, rfl, by decide +kernel, rfl, by decide +kernel, by decide +kernel⟩
def ct_missed (CH : Addr) : Ct := fun S R => ∃ (h : Hit) (c : List Int) (m : M), S = [.o (hitD CH h), m] ∧ m.rd (.lst (c.map D.int)) ∧ HitOk h ∧
  (∀ (i : Nat) (s : List Int), h.sets[i]? = some s → (∀ t ∈ s, t ∉ c) → R (.int i) [.o (hitD CH h), .no]) ∧ (Hits h.sets c → R .non [.o (hitD CH h), .no])
theorem c_missed (F : MethAt K CH "missed" "Hitter.missed" s_Hitter_missed ["self", "chosen"]) (T : Txt K mg CH) : MCal P w K mg base CH "missed" 1 ["self", "chosen"] (spD K (ct_missed CH)) := by
  refine okM F sc_Hitter_missed (fun S R h => ?_) fun f cdv A outer s H E hr => ?_
  · obtain ⟨h, c, m, rfl, _⟩ := h; rfl
  have hu1 := hu1_of hr
  have hu64 := hu64_of hr
  have hu65 := hu65_of hr
  refine ⟨_, (by exact (pss_cons (by exact (ps_for PassesOwn.never rfl (by exact (k_enum (K := K) rfl (by rfl) T.n_enumerate (by exact (pa_cons (by exact (k_fld (K := K) rfl (by exact (pv 0)) rfl)) pa_nil (by rfl))) (by rfl))) (by exact (k_tup (K := K) (n := 2) rfl rfl (by exact (pgs_cons (by exact (pg_name (i := 2) sc_Hitter_missed.nd rfl (Or.inl rfl))) (by exact (pgs_cons (by exact (pg_name (i := 3) sc_Hitter_missed.nd rfl (Or.inl rfl))) pgs_nil)))) (by rfl) (by rfl))) (by exact (pss_one (by exact (ps_if (by exact (pt_not (by exact (k_tr (K := K) rfl (by exact (k_callB (kr_any (K := K) rfl rfl) (by rfl) T.n_any (by decide +kernel) (by exact (pa_cons (by exact (pe_lc (own := [("thing", 4)]) rfl sc_Hitter_missed.nd (by exact (k_sq (K := K) rfl (by exact (pv 3)))) (blkOk_by (own := [("thing", 4)]) (by kernel_rfl)) (by intros; exact (by exact (pg_name (i := 4) sc_Hitter_missed.nd rfl (Or.inl rfl)))) (by intros; exact pts_nil) (by intros; exact (by exact (k_in (K := K) rfl hu65 (by exact (pv 4)) (by exact (pv 1)) (by rfl)))) (by intro _; rfl))) pa_nil (by rfl))) (by decide) (by decide) (by rfl) (by rfl))) (fun _ => rfl))))) (by exact (pss_one (by exact (ps_ret (by exact (pv 2)))))) pss_nil))))))
      (by exact (pss_one (by exact (ps_ret (by exact pe_non))))))), fun S R h => ?_⟩
  obtain ⟨h, c, m, rfl, hm, ok, hR1, hR2⟩ := h
  have t1 := T.cl_Hitter; have t2 := T.f_sets; have t3 := T.f_prices
  clear hu1 hu64 hu65 hr F T
  refine ⟨[0], by decide, fun i hi m' hm' => by simp at hi; subst hi; cases hm'; rfl, ?_⟩
  refine st_imp (show slot0 _ [M.o (hitD CH h), m] = [M.o (hitD CH h), m, .no, .no, .no] from rfl) ?_
  refine st_seq (st_for (vs := [2, 3]) (ds := enD (h.sets.map fun s => D.tup (s.map D.int)))
    (fun i S' => ∃ (a2 a3 a4 : M), S' = [M.o (hitD CH h), m, a2, a3, a4] ∧ ∀ (j : Nat) (s : List Int), j < i → h.sets[j]? = some s → ∃ t ∈ s, t ∈ c)
    ?wk (by decide) ?h0 ?ht ?hd)
  case wk => exact wkp_enum (by walk_at "ev")
  case h0 => exact ⟨_, _, _, rfl, fun j s hj => by omega⟩
  case hd =>
    rintro S' ⟨a2, a3, a4, rfl, z⟩
    refine st_retP (d := .non) (by walk_at "ev") ⟨by show 2 ≤ 5; decide, hR2 fun s hs => ?_⟩
    obtain ⟨j, hj⟩ := List.getElem?_of_mem hs
    have hj1 := (List.getElem?_eq_some_iff.mp hj).1
    exact z j s (by simpa [enD] using hj1) hj
  case ht =>
    rintro i d S' hd ⟨a2, a3, a4, rfl, z⟩
    obtain ⟨s, hs, rfl⟩ := enD_get hd
    refine ⟨_, gt_pair, ?_⟩
    have hs' : s ∈ h.sets := List.mem_of_getElem? hs
    have hsl : s.length ≤ 10 := Nat.le_trans (nd_len (ok.nds s hs') (ok.sub s hs')) ok.ulen
    have sl2 : s.length ≤ 50000 := by omega
    refine' st_ifP ?tt ?h1 ?h2
    case tt => walk_at "ev"
    case h1 =>
      intro hb
      rw [Bool.not_eq_true', List.any_eq_false] at hb
      refine st_retP (d := .int (i : Nat)) (by walk_at "ev") ⟨by show 2 ≤ 5; decide, hR1 i s hs fun t ht z => hb t ht (decide_eq_true z)⟩
    case h2 =>
      intro hb
      refine st_nil ⟨_, _, _, rfl, fun j s' hj hs2 => ?_⟩
      by_cases q : j = i
      · subst q
        rw [hs] at hs2
        cases hs2
        rw [Bool.not_eq_false', List.any_eq_true] at hb
        obtain ⟨t, h1, h2⟩ := hb
        exact ⟨t, h1, of_decide_eq_true h2⟩
      · exact z j s' (by omega) hs2
abbrev s_Hitter_ordered : Stmt := inClass (top 6) 5
theorem sc_Hitter_ordered : FnScope ["self", "own", "barred", "pair", "thing"] ["self", "own", "barred"] (defScope s_Hitter_ordered) := ⟨rfl, rfl, rfl, by decide +kernel, rfl, by decide +kernel, by decide +kernel⟩
def ct_ordered (CH : Addr) : Ct := fun S R => ∃ (h : Hit) (s b : List Int) (m1 m2 : M), S = [.o (hitD CH h), m1, m2] ∧ m1.rd (.tup (s.map D.int)) ∧ m2.rd (.lst (b.map D.int)) ∧ s.length ≤ 1000 ∧ (∀ t ∈ s, t ∈ h.U) ∧
  (∀ L : List Int, List.Perm L (HM.freeOf s b) → R (.lst (L.map D.int)) [.o (hitD CH h), .no, .no])
theorem c_ordered (F : MethAt K CH "ordered" "Hitter.ordered" s_Hitter_ordered ["self", "own", "barred"]) (T : Txt K mg CH) : MCal P w K mg base CH "ordered" 1 ["self", "own", "barred"] (spD K (ct_ordered CH)) := by
  refine okM F sc_Hitter_ordered (fun S R h => ?_) fun f cdv A outer s H E hr => ?_
  · obtain ⟨h, c, b, m1, m2, rfl, _⟩ := h; rfl
  have hu1 := hu1_of hr
  have hu64 := hu64_of hr
  have hu65 := hu65_of hr
  refine ⟨_, (by exact (pss_one (by exact (ps_ret (by exact (pe_lc (own := [("pair", 3)]) rfl sc_Hitter_ordered.nd (by exact (k_sq (K := K) rfl (by exact (k_callB (kr_sortP (K := K) rfl) (by rfl) T.n_sorted (by decide +kernel) (by exact (pa_cons (by exact (pe_lc (own := [("thing", 4)]) rfl sc_Hitter_ordered.nd (by exact (k_sq (K := K) rfl (by exact (pv 1)))) (blkOk_by (own := [("thing", 4)]) (by kernel_rfl)) (by intros; exact (by exact (pg_name (i := 4) sc_Hitter_ordered.nd rfl (Or.inl rfl)))) (by intros; exact pts_one (by exact (kt_nin (K := K) rfl hu65 (by exact (pv 4)) (by exact (pv 2)) (by rfl)))) (by intros; exact (by exact (pe_tup (by exact (pa_cons (by exact (k_sub (K := K) rfl hu1 (by exact (k_fld (K := K) rfl (by exact (pv 0)) rfl)) (by exact (pv 4)) (fun _ _ => rfl) (fun _ _ => rfl))) (by exact (pa_cons (by exact (pv 4)) pa_nil (by rfl))) (by rfl)))))) (by intro _; rfl))) pa_nil (by rfl))) (by decide) (by decide) (by rfl) (by rfl))))) (blkOk_by (own := [("pair", 3)]) (by kernel_rfl)) (by intros; exact (by exact (pg_name (i := 3) sc_Hitter_ordered.nd rfl (Or.inl rfl)))) (by intros; exact pts_nil) (by intros; exact (by exact (k_sub (K := K) rfl hu1 (by exact (pv 3)) (by exact pe_int) (fun _ _ => rfl) (fun _ _ => rfl)))) (by intro _; rfl))))))), fun S R h => ?_⟩
  obtain ⟨h, s, b, m1, m2, rfl, hm1, hm2, hsl, hU, hR⟩ := h
  have t1 := T.cl_Hitter; have t2 := T.f_sets; have t3 := T.f_prices
  clear hu1 hu64 hu65 hr F T
  have hp : ∀ a, a ∈ s → lkD (h.U.map fun t => (Sum.inl t : Key)) (h.U.map fun t => D.int (h.pr t)) (Sum.inl a) = some (.int (h.pr a)) := fun a ha => lk_fun h.U _ (hU a ha)
  have sl2 : s.length ≤ 50000 := by omega
  refine ⟨[0], by decide, fun i hi m' hm' => by simp at hi; subst hi; cases hm'; rfl, ?_⟩
  refine st_imp (show slot0 _ [M.o (hitD CH h), m1, m2] = [M.o (hitD CH h), m1, m2, .no, .no] from rfl) ?_
  have pm : List.Perm ((psort ((s.filter fun t => !decide (t ∈ b)).map fun a => (h.pr a, a))).map fun p => p.2) (HM.freeOf s b) := by
    have := (psort_perm ((s.filter fun t => !decide (t ∈ b)).map fun a => (h.pr a, a))).map fun p => p.2
    rw [List.map_map] at this
    refine this.trans (List.Perm.of_eq ?_)
    unfold HM.freeOf
    exact List.map_id' _
  have pl : (psort ((s.filter fun t => !decide (t ∈ b)).map fun a => (h.pr a, a))).length ≤ 50000 := by
    rw [(psort_perm _).length_eq, List.length_map]
    exact Nat.le_trans (List.length_filter_le _ _) sl2
  refine st_retP (d := .lst ((psort ((s.filter fun t => !decide (t ∈ b)).map fun a => (h.pr a, a))).map fun p => .int p.2)) ?ev ⟨by show 3 ≤ 5; decide, ?_⟩
  case ev =>
    walk_at "ev"
  have := hR _ pm
  rw [List.map_map] at this
  exact this
end
open PySem L2 Evl PyProof.Rows Dl HM

theorem fld_nodes (CH : Addr) (h : Hit) (v : Int) : D.ins CH (putN "nodes" hitN) (putX "nodes" (.int v) hitN (hitX h)) = hitD CH { h with nodes := v } := by rfl
theorem fld_best (CH : Addr) (h : Hit) (v : List Int) : D.ins CH (putN "best" hitN) (putX "best" (.tup (v.map D.int)) hitN (hitX h)) = hitD CH { h with best := some v } := by rfl
theorem fld_least (CH : Addr) (h : Hit) (v : Int) : D.ins CH (putN "least" hitN) (putX "least" (.int v) hitN (hitX h)) = hitD CH { h with least := some v } := by rfl
section
variable {P : Program} {w : World} {K : PySem.W.Frag} {mg : PySem.Str → Option Value} {base : Heap} {CH : Addr}
theorem mcal_no {x qual : PySem.Str} {Ca : Addr} {st : Stmt} {ps : List PySem.Str} {C : Ct} {k : Nat} (F : MethAt K Ca x qual st ps) (h : ∀ S R, ¬ C S R) : MCal P w K mg base Ca x k ps (spD K C) := by
  obtain ⟨f, fd, h1, h2, h3⟩ := F.ex
  exact ⟨f, fd, h1, h3, fun vs H Q E ⟨S, R, _, _, c, _⟩ => (h S R c).elim, fun A outer s H args us vs Q E _ _ _ _ ⟨S, R, _, _, c, _⟩ => (h S R c).elim⟩
/-- what follows may be reached by many ways -/
theorem st_seqR {Pn : List Nat} {S : List M} {P : Post} {t u : TS} {φ : Prop} {S0 : List M} (rest : φ → StN K Pn u S0 P) (h : (φ → StN K Pn u S0 P) → StN K Pn t S { P with nx := fun S' => StN K Pn u S' P }) : StN K Pn (tSeq t u) S P := st_seq (h rest)
/-- a for over items of a type, the list reckoned by what may change things -/
theorem st_forNT {α : Type} {Pn : List Nat} {S : List M} {P : Post} {wi : TI} {g : TG} {vs : List Nat} {tb : TS} (f : α → D) (I : List α → List α → List M → Prop) (wk : WkN K wi S fun ds S1 => ∃ xs : List α, ds = xs.map f ∧ I xs [] S1) (hv : ∀ i ∈ vs, i ∉ Pn)
    (ht : ∀ xs pre a post S', xs = pre ++ a :: post → I xs pre S' → ∃ S2, GtP K g vs S' (f a) S2 ∧ StN K Pn tb S2 ⟨I xs (pre ++ [a]), P.rt, P.nx, I xs (pre ++ [a])⟩) (hd : ∀ xs S', I xs xs S' → P.nx S') : StN K Pn (tFor wi g tb) S P := by
  refine st_forN (fun ds i S' => ∃ xs : List α, ds = xs.map f ∧ I xs (xs.take i) S') (fun Pn pl G H0 H σ Rr Q q => wk Pn pl G H0 H σ Rr Q fun ds S' J H0' H' ⟨xs, e, r⟩ => q ds S' J H0' H' ⟨xs, e, by simpa using r⟩) hv (fun ds i d S' hq ⟨xs, e, hI⟩ => ?_) fun ds S' ⟨xs, e, hI⟩ => ?_
  · subst e
    rw [List.getElem?_map] at hq
    cases q : xs[i]? with
    | none => rw [q] at hq; cases hq
    | some a =>
      rw [q] at hq
      cases hq
      obtain ⟨hl, ha⟩ := List.getElem?_eq_some_iff.mp q
      have e1 : xs = xs.take i ++ a :: xs.drop (i + 1) := by
        have e := (List.take_append_drop i xs).symm
        rw [List.drop_eq_getElem_cons hl, ha] at e
        exact e
      obtain ⟨S2, k1, k2⟩ := ht xs (xs.take i) a (xs.drop (i + 1)) S' e1 hI
      have e2 : xs.take i ++ [a] = xs.take (i + 1) := by rw [List.take_add_one, q]; rfl
      rw [e2] at k2
      exact ⟨S2, k1, k2.weak (fun _ h => ⟨xs, rfl, h⟩) (fun _ _ h => h) (fun _ h => h) fun _ h => ⟨xs, rfl, h⟩⟩
  · subst e
    rw [List.length_map, List.take_length] at hI
    exact hd xs S' hI
abbrev s_Hitter_go_on : Stmt := inClass (top 6) 4
theorem sc_Hitter_go_on : FnScope ["self", "chosen", "barred", "at", "away", "thing"] ["self", "chosen", "barred"] (defScope s_Hitter_go_on) := ⟨rfl, rfl, rfl, by decide +kernel, rfl, by decide +kernel, by decide +kernel⟩
structure GoOk (h : Hit) (c b : List Int) : Prop where
  ok : HitOk h
  ndc : c.Nodup
  ndb : b.Nodup
  subc : ∀ t ∈ c, t ∈ h.U
  subb : ∀ t ∈ b, t ∈ h.U
  dis : ∀ t ∈ c, t ∉ b
  best : BestOk h.pr h.sets h.U h.best h.least
  nn : 0 ≤ h.nodes
  few : h.nodes + 2 ^ (undec h.U c b).length ≤ 20000
def ct_go (CH : Addr) (n : Nat) : Ct := fun S R => ∃ (h : Hit) (c b : List Int) (m1 m2 : M), S = [.o (hitD CH h), m1, m2] ∧ m1.rd (.lst (c.map D.int)) ∧ m2.rd (.lst (b.map D.int)) ∧ GoOk h c b ∧ (undec h.U c b).length < n ∧
  ∀ (b' : Option (List Int)) (l' : Option Int) (k' : Int), h.nodes ≤ k' → k' ≤ h.nodes + 2 ^ (undec h.U c b).length → BestOk h.pr h.sets h.U b' l' → LeO l' h.least → Cov h.pr h.sets h.U l' (Goes c b) → R .non [.o (hitD CH { h with best := b', least := l', nodes := k' }), .no, .no]
theorem c_go_on (F : MethAt K CH "go_on" "Hitter.go_on" s_Hitter_go_on ["self", "chosen", "barred"]) (T : Txt K mg CH)
    (c_Hitter_cost : MCal P w K mg base CH "cost" 1 ["self", "chosen"] (spD K (ct_cost CH)))
    (c_Hitter_floor : MCal P w K mg base CH "floor" 2 ["self", "chosen", "barred"] (spD K (ct_floor CH)))
    (c_Hitter_missed : MCal P w K mg base CH "missed" 1 ["self", "chosen"] (spD K (ct_missed CH)))
    (c_Hitter_ordered : MCal P w K mg base CH "ordered" 1 ["self", "own", "barred"] (spD K (ct_ordered CH))) :
    ∀ n : Nat, MCal P w K mg base CH "go_on" (n + 2) ["self", "chosen", "barred"] (spD K (ct_go CH n))
  | 0 => mcal_no F fun S R ⟨h, c, b, m1, m2, _, _, _, _, z, _⟩ => by omega
  | n + 1 => by
    have c_Hitter_go_on := c_go_on F T c_Hitter_cost c_Hitter_floor c_Hitter_missed c_Hitter_ordered n
    refine okM F sc_Hitter_go_on (fun S R h => ?_) fun f cdv A outer s H E hr => ?_
    · obtain ⟨h, c, b, m1, m2, rfl, _⟩ := h; rfl
    have hu1 := hu1_of hr
    have hu64 := hu64_of hr
    have hu65 := hu65_of hr
    refine ⟨_, (by exact (pss_cons (by exact (ps_fld (by exact (pv 0)) (by exact (k_add (K := K) rfl (by exact (k_fld (K := K) rfl (by exact (pv 0)) rfl)) (by exact pe_int))) rfl))
      (by exact (pss_cons (by exact (ps_if (by exact (pt_cmpR op_gt (by exact (k_fld (K := K) rfl (by exact (pv 0)) rfl)) (by exact (pe_globI rfl T.g_MOST_NODES)) (nomark _))) (by exact (pss_one (by exact ps_never))) pss_nil))
      (by exact (pss_cons (by exact (ps_if (by exact (PW.pt (by exact (by exact (pw_and (by exact (pt_cmpR or_notU (by exact (k_fld (K := K) rfl (by exact (pv 0)) rfl)) (by exact pe_non) (nomark _))) (by exact (pw_and1 (by exact (pt_cmpR op_ge (by exact (pe_mcal (by exact (pv 0)) T.cl_Hitter c_Hitter_floor (hr.mono (by first | decide | omega)) (by exact (pa_cons (by exact (pv 1)) (by exact (pa_cons (by exact (pv 2)) pa_nil (by rfl))) (by rfl))))) (by exact (k_fld (K := K) rfl (by exact (pv 0)) rfl)) (nomark _)))))))))) (by exact (pss_one (by exact ps_retN))) pss_nil))
      (by exact (pss_cons (by exact (ps_set (i := 3) sc_Hitter_go_on.nd rfl (Or.inl rfl) (by exact (pe_mcal (by exact (pv 0)) T.cl_Hitter c_Hitter_missed (hr.mono (by first | decide | omega)) (by exact (pa_cons (by exact (pv 1)) pa_nil (by rfl)))))))
      (by exact (pss_cons (by exact (ps_if (by exact (pt_cmpR or_isU (by exact (pv 3)) (by exact pe_non) (nomark _))) (by exact (pss_cons (by exact (ps_fld (by exact (pv 0)) (by exact (k_tupleOf (K := K) rfl (by rfl) T.n_tuple (by exact (k_callB (kr_sortI (K := K) rfl) (by rfl) T.n_sorted (by decide +kernel) (by exact (pa_cons (by exact (pv 1)) pa_nil (by rfl))) (by decide) (by decide) (by rfl) (by rfl))) (by rfl))) rfl))
      (by exact (pss_cons (by exact (ps_fld (by exact (pv 0)) (by exact (pe_mcal (by exact (pv 0)) T.cl_Hitter c_Hitter_cost (hr.mono (by first | decide | omega)) (by exact (pa_cons (by exact (pv 1)) pa_nil (by rfl))))) rfl))
      (by exact (pss_one (by exact ps_retN))))))) pss_nil))
      (by exact (pss_cons (by exact (ps_set (i := 4) sc_Hitter_go_on.nd rfl (Or.inl rfl) (by exact (k_callTy (kr_list (K := K) rfl) (by rfl) T.n_list (by decide +kernel) (by exact (pa_cons (by exact (pv 2)) pa_nil (by rfl))) (by decide) (by decide) (by rfl) (by rfl)))))
      (by exact (pss_one (by exact (ps_for PassesOwn.never rfl (by exact (k_sq (K := K) rfl (by exact (pe_mcal (by exact (pv 0)) T.cl_Hitter c_Hitter_ordered (hr.mono (by first | decide | omega)) (by exact (pa_cons (by exact (k_sub (K := K) rfl hu1 (by exact (k_fld (K := K) rfl (by exact (pv 0)) rfl)) (by exact (pv 3)) (fun _ _ => rfl) (fun _ _ => rfl))) (by exact (pa_cons (by exact (pv 2)) pa_nil (by rfl))) (by rfl))))))) (by exact (pg_name (i := 5) sc_Hitter_go_on.nd rfl (Or.inl rfl))) (by exact (pss_cons (by exact (ps_expr (by exact (pe_mcal (by exact (pv 0)) T.cl_Hitter c_Hitter_go_on (hr.mono (by first | decide | omega)) (by exact (pa_cons (by exact (k_add (K := K) rfl (by exact (pv 1)) (by exact (pe_lst (by exact (pa_cons (by exact (pv 5)) pa_nil (by rfl))))))) (by exact (pa_cons (by exact (pv 4)) pa_nil (by rfl))) (by rfl)))))))
      (by exact (pss_one (by exact (ps_expr (by exact (pe_bm PySem.F.plainAttrs_list PySem.F.slot_list_append PySem.F.type_list_append mt_append (by exact (pv 4)) (by exact (pa_cons (by exact (pv 5)) pa_nil (by rfl))))))))))))))))))))))))))), fun S R h => ?_⟩
    obtain ⟨h, c, b, m1, m2, rfl, hm1, hm2, go, hlt, hR⟩ := h
    have t1 := T.cl_Hitter; have t2 := T.f_sets; have t3 := T.f_best; have t4 := T.f_least; have t5 := T.f_nodes
    clear hu1 hu64 hu65 hr F T
    refine ⟨[0], by decide, fun i hi m' hm' => by simp at hi; subst hi; cases hm'; rfl, ?_⟩
    refine st_imp (show slot0 _ [M.o (hitD CH h), m1, m2] = [M.o (hitD CH h), m1, m2, .no, .no, .no] from rfl) ?_
    refine st_seq (st_fld t1 t5 (EvP.n (d := .int (h.nodes + 1)) (by walk_at "ev") ⟨_, _, rfl, by decide, ?_⟩))
    show StN K [0] _ [M.o (hitD CH { h with nodes := h.nodes + 1 }), m1, m2, .no, .no, .no] _
    have hR1 : ∀ (b' : Option (List Int)) (l' : Option Int) (k' : Int), ({ h with nodes := h.nodes + 1 } : Hit).nodes ≤ k' → k' + 1 ≤ ({ h with nodes := h.nodes + 1 } : Hit).nodes + 2 ^ (undec h.U c b).length → BestOk h.pr h.sets h.U b' l' → LeO l' h.least → Cov h.pr h.sets h.U l' (Goes c b) → R .non [.o (hitD CH { ({ h with nodes := h.nodes + 1 } : Hit) with best := b', least := l', nodes := k' }), .no, .no] :=
      fun b' l' k' z1 z2 z3 z4 z5 => hR b' l' k' (by dsimp only at z1; omega) (by dsimp only at z2; omega) z3 z4 z5
    have few : ({ h with nodes := h.nodes + 1 } : Hit).nodes + 2 ^ (undec h.U c b).length ≤ 20001 := by have := go.few; dsimp only; omega
    have ok : HitOk { h with nodes := h.nodes + 1 } := ⟨go.ok.ndU, go.ok.pos, go.ok.sub, go.ok.nds, go.ok.ulen, go.ok.slen⟩
    have nn : 0 ≤ ({ h with nodes := h.nodes + 1 } : Hit).nodes := by have := go.nn; dsimp only; omega
    have few1 : ({ h with nodes := h.nodes + 1 } : Hit).nodes ≤ 20000 := by have := go.few; have := pow_pos (undec h.U c b).length; dsimp only; omega
    obtain ⟨h1, eh1⟩ : ∃ h1, { h with nodes := h.nodes + 1 } = h1 := ⟨_, rfl⟩
    have hR : ∀ (b' : Option (List Int)) (l' : Option Int) (k' : Int), h1.nodes ≤ k' → k' + 1 ≤ h1.nodes + 2 ^ (undec h1.U c b).length → BestOk h1.pr h1.sets h1.U b' l' → LeO l' h1.least → Cov h1.pr h1.sets h1.U l' (Goes c b) → R .non [.o (hitD CH { h1 with best := b', least := l', nodes := k' }), .no, .no] := by
      subst eh1; exact hR1
    have best : BestOk h1.pr h1.sets h1.U h1.best h1.least := by subst eh1; exact go.best
    have subc : ∀ t ∈ c, t ∈ h1.U := by subst eh1; exact go.subc
    have subb : ∀ t ∈ b, t ∈ h1.U := by subst eh1; exact go.subb
    have hlt : (undec h1.U c b).length < n + 1 := by subst eh1; exact hlt
    have few : h1.nodes + 2 ^ (undec h1.U c b).length ≤ 20001 := by subst eh1; exact few
    rw [eh1] at ok nn few1 ⊢
    have ndc := go.ndc
    have ndb := go.ndb
    have dis := go.dis
    have lc : c.length ≤ 10 := Nat.le_trans (nd_len ndc subc) ok.ulen
    have lb : b.length ≤ 10 := Nat.le_trans (nd_len ndb subb) ok.ulen
    have pnn : ∀ t ∈ h1.U, 0 ≤ h1.pr t := fun t z => Int.le_trans (by decide) (ok.pos t z)
    clear eh1 hR1 go
    refine' st_seq (st_ifP ?tt ?h1 ?h2)
    case tt => walk_at "ev"
    case h1 => intro hb; have := of_decide_eq_true hb; omega
    case h2 =>
    intro _
    refine st_nil ?_
    refine st_seqR (φ := ∀ l, h1.least = some l → Hits h1.sets c → costOf h1.pr c < l) (S0 := [M.o (hitD CH h1), m1, m2, .no, .no, .no]) ?rest ?prune
    case prune =>
      intro rest
      refine' st_if (tpn_and (TpP.n (b := !(leastD h1.least).isN) ?tp ⟨fun hb => ?call, fun hb => ⟨fun z => (Bool.false_ne_true z).elim, fun _ => st_nil (rest fun l hl _ => ?nol)⟩⟩))
      case tp => walk_at "ev"
      case nol => rw [hl] at hb; cases hb
      case call =>
        obtain ⟨l, hl⟩ : ∃ l, h1.least = some l := by
          cases q : h1.least with
          | none => rw [q] at hb; cases hb
          | some l => exact ⟨l, rfl⟩
        refine tpn_test (evn_op (evn_meth (m := .o (hitD CH h1)) rfl ⟨hitN, hitX h1, rfl, rfl, by decide +kernel⟩ (arn_b rfl hm1 (arn_b rfl hm2 (arn_nil ⟨(by simp [arChk, arOne, slots, ndB, Ar.slot?, M.own, arV, List.filterMap_cons, rdB_o, rdB_b, rdB_d, rdB_of hm1, rdB_of hm2]), h1, c, b, m1.toB, m2.toB, rfl, rd_toB hm1, rd_toB hm2, subc, ndc, by omega, by omega, ok, fun v lo eq => ?fin⟩)))))
        case fin =>
          show EvN K _ [M.o (hitD CH h1), m1, m2, .no, .no, .no] _
          refine EvP.n (d := .int l) (EvP.is (d := leastD h1.least) (by walk_at "ev") (by rw [hl]; rfl)) ⟨.bl (decide (l ≤ v)), v_ge, _, rfl, fun hb => ?ret, fun hb => ?go⟩
          case ret =>
            refine st_retN ⟨by show 3 ≤ 6; decide, hR h1.best h1.least h1.nodes (Int.le_refl _) ?_ best (LeO.refl _) fun T F G => ⟨l, hl, ?_⟩⟩
            · have := pow_pos (undec h1.U c b).length; omega
            · have := lo T F G.1 G.2
              have := of_decide_eq_true hb
              omega
          case go =>
            refine st_nil (rest fun l' hl' hh => ?_)
            rw [hl] at hl'
            cases hl'
            have := of_decide_eq_false hb
            have := eq hh
            omega
    case rest =>
      intro pr
      refine st_seq (st_set (by decide) (evn_meth (m := .o (hitD CH h1)) rfl ⟨hitN, hitX h1, rfl, rfl, by decide +kernel⟩ (arn_b rfl hm1 (arn_nil ⟨(by simp [arChk, arOne, slots, ndB, Ar.slot?, M.own, arV, List.filterMap_cons, rdB_o, rdB_b, rdB_d, rdB_of hm1]), h1, c, m1.toB, rfl, rd_toB hm1, ok, fun i s hs hn => ?som, fun hh => ?non⟩))))
      case non =>
        show StN K [0] _ [M.o (hitD CH h1), m1, m2, .d .non, .no, .no] _
        refine' st_seq (st_ifP ?tt ?h1 ?h2)
        case tt => walk_at "ev"
        case h2 => intro hb; cases hb
        case h1 =>
          intro _
          refine st_seq (st_fld t1 t3 (EvP.n (d := .tup ((isort c).map D.int)) (by walk_at "ev") ⟨_, _, rfl, by decide, ?nx⟩))
          case nx =>
          show StN K [0] _ [M.o (hitD CH { h1 with best := some (isort c) }), m1, m2, .d .non, .no, .no] _
          refine st_seq (st_fld t1 t4 (evn_meth (m := .o (hitD CH { h1 with best := some (isort c) })) rfl ⟨hitN, hitX { h1 with best := some (isort c) }, rfl, rfl, by decide +kernel⟩ (arn_b rfl hm1 (arn_nil ⟨(by simp [arChk, arOne, slots, ndB, Ar.slot?, M.own, arV, List.filterMap_cons, rdB_o, rdB_b, rdB_d, rdB_of hm1]), { h1 with best := some (isort c) }, c, m1.toB, rfl, rd_toB hm1, subc, by omega, ⟨_, _, rfl, by decide, ?nx2⟩⟩))))
          case nx2 =>
          show StN K [0] _ [M.o (hitD CH { h1 with best := some (isort c), least := some (costOf h1.pr c) }), m1, m2, .d .non, .no, .no] _
          have Fc : Feas h1.sets h1.U c := ⟨ndc, subc, hh⟩
          refine st_retN ⟨by show 3 ≤ 6; decide, hR (some (isort c)) (some (costOf h1.pr c)) h1.nodes (Int.le_refl _) ?_ ⟨?_, ⟨?_, fun t ht => subc t (isort_mem.mp ht), fun s hs => ?_⟩, (cost_perm (isort_perm c)).symm⟩ (fun l hl => ⟨_, rfl, Int.le_of_lt (pr l hl hh)⟩) fun T F G => ⟨_, rfl, sub_cost ndc G.1 fun t ht => pnn t (F.sub t ht)⟩⟩
          · have := pow_pos (undec h1.U c b).length; omega
          · have k1 := isort_srt c
            have k2 : (isort c).Nodup := (isort_perm c).nodup_iff.mpr ndc
            exact (k1.and k2).imp fun {x y} h => Int.lt_iff_le_and_ne.mpr ⟨h.1, h.2⟩
          · exact (isort_perm c).nodup_iff.mpr ndc
          · obtain ⟨t, q1, q2⟩ := hh s hs
            exact ⟨t, q1, isort_mem.mpr q2⟩
      case som =>
        show StN K [0] _ [M.o (hitD CH h1), m1, m2, .d (.int i), .no, .no] _
        refine' st_seq (st_ifP ?tt ?h1 ?h2)
        case tt => walk_at "ev"
        case h1 => intro hb; cases hb
        case h2 =>
        intro _
        refine st_nil (st_seq (st_setF (d := .lst (b.map D.int)) (by decide) (by walk_at "ev") ?nx))
        case nx =>
        show StN K [0] _ [M.o (hitD CH h1), m1, m2, .d (.int i), .o (.lst (b.map D.int)), .no] _
        have hs' : s ∈ h1.sets := List.mem_of_getElem? hs
        have sU : ∀ t ∈ s, t ∈ h1.U := ok.sub s hs'
        have nds : s.Nodup := ok.nds s hs'
        have hsl : s.length ≤ 10 := Nat.le_trans (nd_len nds sU) ok.ulen
        have hat : atI (h1.sets.map fun s => D.tup (s.map D.int)) (i : Int) = some (.tup (s.map D.int)) := by
          refine atI_nat ?_
          rw [List.getElem?_map, hs]; rfl
        refine st_forNT (vs := [5]) D.int (fun xs pre S' => List.Perm xs (HM.freeOf s b) ∧ ∃ (b' : Option (List Int)) (l' : Option Int) (k' : Int) (a5 : M), S' = [M.o (hitD CH { h1 with best := b', least := l', nodes := k' }), m1, m2, .d (.int i), .o (.lst ((b ++ pre).map D.int)), a5] ∧
          h1.nodes ≤ k' ∧ k' + 2 ^ ((undec h1.U c b).length - pre.length) ≤ h1.nodes + 2 ^ (undec h1.U c b).length ∧ BestOk h1.pr h1.sets h1.U b' l' ∧ LeO l' h1.least ∧ Cov h1.pr h1.sets h1.U l' (fun T => Goes c b T ∧ ∃ t ∈ pre, t ∈ T)) ?wk (by decide) ?ht ?hd
        case wk =>
          refine wkn_lst (evn_meth (m := .o (hitD CH h1)) rfl ⟨hitN, hitX h1, rfl, rfl, by decide +kernel⟩ (arn_p (d := .tup (s.map D.int)) ?ar (arn_b rfl hm2 (arn_nil ⟨(by simp [arChk, arOne, slots, ndB, Ar.slot?, M.own, arV, List.filterMap_cons, rdB_o, rdB_b, rdB_d, rdB_of hm2]), h1, s, b, .d (.tup (s.map D.int)), m2.toB, rfl, rfl, rd_toB hm2, by omega, sU, fun L pm => ⟨_, rfl, L, rfl, pm, h1.best, h1.least, h1.nodes, .no, ?_, Int.le_refl _, ?_, best, LeO.refl _, fun T F z => ?_⟩⟩))))
          case ar =>
            refine' evp_ix ?a ?b ?r
            case a => walk_at "ev"
            case b => walk_at "ev"
            case r => exact v_ixl hat
          · rw [List.append_nil]; rfl
          · rw [List.length_nil, Nat.sub_zero]; exact Int.le_refl _
          · obtain ⟨t, z1, _⟩ := z.2; cases z1
        case hd =>
          rintro xs S' ⟨pm, b', l', k', a5, rfl, z1, z2, z3, z4, z5⟩
          refine ⟨by show 3 ≤ 6; decide, hR b' l' k' z1 (last_ z2) z3 z4 fun T F G => z5 T F ⟨G, ?_⟩⟩
          obtain ⟨t, q1, q2⟩ := F.hits s hs'
          refine ⟨t, pm.mem_iff.mpr ?_, q2⟩
          unfold HM.freeOf
          rw [List.mem_filter]
          exact ⟨q1, by simp [G.2 t q2]⟩
        case ht =>
          rintro xs pre a post S' e ⟨pm, b', l', k', a5, rfl, z1, z2, z3, z4, z5⟩
          refine ⟨_, gt_name, ?_⟩
          have frn : (HM.freeOf s b).Nodup := nds.filter _
          have xn : xs.Nodup := pm.nodup_iff.mpr frn
          have xu : ∀ x ∈ xs, x ∈ undec h1.U c b := fun x hx => by
            have := pm.mem_iff.mp hx
            unfold HM.freeOf at this
            rw [List.mem_filter] at this
            exact mem_undec.mpr ⟨sU x this.1, hn x this.1, by simpa using this.2⟩
          have xn2 : (pre ++ [a]).Nodup := by
            rw [e, show pre ++ a :: post = (pre ++ [a]) ++ post by simp] at xn
            exact (List.nodup_append.mp xn).1
          have xu2 : ∀ x ∈ pre ++ [a], x ∈ undec h1.U c b := fun x hx => xu x (by rw [e, show pre ++ a :: post = (pre ++ [a]) ++ post by simp]; exact List.mem_append_left _ hx)
          have us := undec_step ok.ndU xn2 xu2
          have ua := mem_undec.mp (xu2 a (by simp))
          have up : ∀ x ∈ pre, x ∈ h1.U ∧ x ∉ c ∧ x ∉ b := fun x hx => mem_undec.mp (xu2 x (List.mem_append_left _ hx))
          have npa : a ∉ pre := fun z => by
            rw [List.nodup_append] at xn2
            exact xn2.2.2 a z a (by simp) rfl
          have hca : c.length + 1 ≤ 100000 := by omega
          have go : GoOk { h1 with best := b', least := l', nodes := k' } (c ++ [a]) (b ++ pre) := by
            refine ⟨⟨ok.ndU, ok.pos, ok.sub, ok.nds, ok.ulen, ok.slen⟩, ?_, ?_, ?_, ?_, ?_, z3, Int.le_trans nn z1, room (p := pre.length) (u := (undec h1.U c b).length) (n := h1.nodes) (by omega) (by dsimp only; omega) z2 (by omega)⟩
            · rw [List.nodup_append]
              exact ⟨ndc, by simp, fun x hx y hy q => by rw [List.mem_singleton] at hy; subst hy; subst q; exact ua.2.1 hx⟩
            · rw [List.nodup_append]
              exact ⟨ndb, (List.nodup_append.mp xn2).1, fun x hx y hy q => by subst q; exact (up x hy).2.2 hx⟩
            · intro t ht
              rcases List.mem_append.mp ht with z | z
              · exact subc t z
              · rw [List.mem_singleton] at z; rw [z]; exact ua.1
            · intro t ht
              rcases List.mem_append.mp ht with z | z
              · exact subb t z
              · exact (up t z).1
            · intro t ht hz
              rcases List.mem_append.mp ht with z | z
              · rcases List.mem_append.mp hz with y | y
                · exact dis t z y
                · exact (up t y).2.1 z
              · rw [List.mem_singleton] at z
                subst z
                rcases List.mem_append.mp hz with y | y
                · exact ua.2.2 y
                · exact npa y
          refine st_seq (st_expr (evn_meth (m := .o (hitD CH { h1 with best := b', least := l', nodes := k' })) rfl ⟨hitN, hitX { h1 with best := b', least := l', nodes := k' }, rfl, rfl, by decide +kernel⟩ (arn_p (d := .lst ((c ++ [a]).map D.int)) ?ar (arn_b (x := .lst ((b ++ pre).map D.int)) rfl rfl (arn_nil ⟨(by simp [arChk, arOne, slots, ndB, Ar.slot?, M.own, arV, List.filterMap_cons, rdB_o, rdB_b, rdB_d]), { h1 with best := b', least := l', nodes := k' }, c ++ [a], b ++ pre, .d (.lst ((c ++ [a]).map D.int)), .b (.lst ((b ++ pre).map D.int)), rfl, rfl, rfl, go, by dsimp only; omega, fun b2 l2 k2 y1 y2 y3 y4 y5 => ?_⟩)))))
          case ar =>
            refine' EvP.is (d := .lst (c.map D.int ++ [.int a])) ?h ?e
            case h =>
              refine' EvF.p (evf_op ?a ?b (v_cat ?c))
              case a => walk_at "ev"
              case b => walk_at "ev"
              case c => rw [List.length_map]; exact hca
            case e => simp
          show StN K [0] _ [M.o (hitD CH { h1 with best := b2, least := l2, nodes := k2 }), m1, m2, .d (.int i), .o (.lst ((b ++ pre).map D.int)), .d (.int a)] _
          refine st_expr (evn_append rfl (EvP.n (d := .int a) (by walk_at "ev") ⟨_, rfl, ?_, pm, b2, l2, k2, .d (.int a), ?_, Int.le_trans z1 y1, ?_, y3, y4.trans z4, fun T F z => ?_⟩))
          · have := nd_len go.ndb go.subb
            have := ok.ulen
            rw [List.length_map]
            dsimp only at *
            omega
          · rw [show (b ++ (pre ++ [a])).map D.int = (b ++ pre).map D.int ++ [.int a] by simp]; rfl
          · rw [List.length_append]
            exact grow (by omega) (by omega) z2 y2
          · by_cases q : ∃ t ∈ pre, t ∈ T
            · exact (z5.le y4) T F ⟨z.1, q⟩
            · refine y5 T F ⟨fun t ht => ?_, fun t ht hz => ?_⟩
              · rcases List.mem_append.mp ht with y | y
                · exact z.1.1 t y
                · rw [List.mem_singleton] at y
                  subst y
                  obtain ⟨t', w1, w2⟩ := z.2
                  rcases List.mem_append.mp w1 with y | y
                  · exact absurd ⟨t', y, w2⟩ q
                  · rw [List.mem_singleton] at y; rw [← y]; exact w2
              · rcases List.mem_append.mp hz with y | y
                · exact z.1.2 t ht y
                · exact q ⟨t, y, ht⟩
end
open PySem L2 Evl PyProof.Rows Dl HM

/-! trees as data -/
mutual
def trD : Tr → D
  | .leaf => .tup []
  | .node a bs => .tup [.int a, .tup (trDs bs)]
def trDs : List (Int × Tr) → List D
  | [] => []
  | (t, b) :: bs => .tup [.int t, trD b] :: trDs bs
end
def brD (p : Int × Tr) : D := .tup [.int p.1, trD p.2]
theorem trDs_map : ∀ bs : List (Int × Tr), trDs bs = bs.map brD
  | [] => by simp [trDs]
  | (t, b) :: bs => by rw [trDs, trDs_map bs]; rfl
mutual
theorem tr_ok : ∀ t : Tr, (trD t).isPy = true ∧ (trD t).py.canLay0 = true ∧ (trD t).py.depth ≤ 3 * t.depth + 1
  | .leaf => by
    unfold trD Tr.depth
    exact ⟨rfl, rfl, by decide⟩
  | .node a bs => by
    obtain ⟨h1, h2, h3⟩ := trs_ok bs
    unfold trD Tr.depth
    refine ⟨?_, ?_, ?_⟩
    · simp [D.isPy, D.isPys, h1]
    · simp [D.py, D.pys, PyData.canLay0, PyData.canLayAll0, h2]
    · simp only [D.py, D.pys, PyData.depth, PyData.depthAll]; omega
theorem trs_ok : ∀ bs : List (Int × Tr), D.isPys (trDs bs) = true ∧ PyData.canLayAll0 (D.pys (trDs bs)) = true ∧ PyData.depthAll (D.pys (trDs bs)) ≤ 3 * Tr.depths bs + 2
  | [] => by
    unfold trDs
    exact ⟨rfl, rfl, by decide⟩
  | (t, b) :: bs => by
    obtain ⟨h1, h2, h3⟩ := trs_ok bs
    obtain ⟨k1, k2, k3⟩ := tr_ok b
    unfold trDs Tr.depths
    refine ⟨?_, ?_, ?_⟩
    · simp [D.isPy, D.isPys, h1, k1]
    · simp [D.py, D.pys, PyData.canLay0, PyData.canLayAll0, h2, k2]
    · simp only [D.py, D.pys, PyData.depth, PyData.depthAll]; omega
end
section
variable {P : Program} {w : World} {K : PySem.W.Frag} {mg : PySem.Str → Option Value} {base : Heap} {CH : Addr}
abbrev s_Hitter_tree : Stmt := inClass (top 6) 6
theorem sc_Hitter_tree : FnScope ["self", "chosen", "barred", "low", "at", "away", "branches", "thing"] ["self", "chosen", "barred", "low"] (defScope s_Hitter_tree) := ⟨rfl, rfl, rfl, by decide +kernel, rfl, by decide +kernel, by decide +kernel⟩
def ct_tree (CH : Addr) (n : Nat) : Ct := fun S R => ∃ (h : Hit) (c b : List Int) (low : Int) (m1 m2 m3 : M), S = [.o (hitD CH h), m1, m2, m3] ∧ m1.rd (.lst (c.map D.int)) ∧ m2.rd (.lst (b.map D.int)) ∧ m3.rd (.int low) ∧ GoOk h c b ∧ (undec h.U c b).length < n ∧
  (∀ T, Feas h.sets h.U T → low ≤ costOf h.pr T) ∧
  ∀ (t : Tr) (k' : Int), h.nodes ≤ k' → k' ≤ h.nodes + 2 ^ (undec h.U c b).length → chk h.sets h.pr low t c b = true → (t.size : Int) ≤ 2 ^ (undec h.U c b).length → t.depth ≤ (undec h.U c b).length + 1 → R (trD t) [.o (hitD CH { h with nodes := k' }), .no, .no, .no]
theorem c_tree (F : MethAt K CH "tree" "Hitter.tree" s_Hitter_tree ["self", "chosen", "barred", "low"]) (T : Txt K mg CH)
    (c_Hitter_cost : MCal P w K mg base CH "cost" 1 ["self", "chosen"] (spD K (ct_cost CH)))
    (c_Hitter_missed : MCal P w K mg base CH "missed" 1 ["self", "chosen"] (spD K (ct_missed CH)))
    (c_Hitter_ordered : MCal P w K mg base CH "ordered" 1 ["self", "own", "barred"] (spD K (ct_ordered CH))) :
    ∀ n : Nat, MCal P w K mg base CH "tree" (n + 2) ["self", "chosen", "barred", "low"] (spD K (ct_tree CH n))
  | 0 => mcal_no F fun S R ⟨h, c, b, _, m1, m2, _, _, _, _, _, _, z, _⟩ => by omega
  | n + 1 => by
    have c_Hitter_tree := c_tree F T c_Hitter_cost c_Hitter_missed c_Hitter_ordered n
    refine okM F sc_Hitter_tree (fun S R h => ?_) fun f cdv A outer s H E hr => ?_
    · obtain ⟨h, c, b, _, m1, m2, _, rfl, _⟩ := h; rfl
    have hu1 := hu1_of hr
    have hu64 := hu64_of hr
    have hu65 := hu65_of hr
    refine ⟨_, (by exact (pss_cons (by exact (ps_fld (by exact (pv 0)) (by exact (k_add (K := K) rfl (by exact (k_fld (K := K) rfl (by exact (pv 0)) rfl)) (by exact pe_int))) rfl))
      (by exact (pss_cons (by exact (ps_if (by exact (pt_cmpR op_gt (by exact (k_fld (K := K) rfl (by exact (pv 0)) rfl)) (by exact (pe_globI rfl T.g_MOST_NODES)) (nomark _))) (by exact (pss_one (by exact ps_never))) pss_nil))
      (by exact (pss_cons (by exact (ps_if (by exact (pt_cmpR op_ge (by exact (pe_mcal (by exact (pv 0)) T.cl_Hitter c_Hitter_cost (hr.mono (by first | decide | omega)) (by exact (pa_cons (by exact (pv 1)) pa_nil (by rfl))))) (by exact (pv 3)) (nomark _))) (by exact (pss_one (by exact (ps_ret (by exact (pe_tup pa_nil)))))) pss_nil))
      (by exact (pss_cons (by exact (ps_set (i := 4) sc_Hitter_tree.nd rfl (Or.inl rfl) (by exact (pe_mcal (by exact (pv 0)) T.cl_Hitter c_Hitter_missed (hr.mono (by first | decide | omega)) (by exact (pa_cons (by exact (pv 1)) pa_nil (by rfl)))))))
      (by exact (pss_cons (by exact (ps_set (i := 5) sc_Hitter_tree.nd rfl (Or.inl rfl) (by exact (k_callTy (kr_list (K := K) rfl) (by rfl) T.n_list (by decide +kernel) (by exact (pa_cons (by exact (pv 2)) pa_nil (by rfl))) (by decide) (by decide) (by rfl) (by rfl)))))
      (by exact (pss_cons (by exact (ps_set (i := 6) sc_Hitter_tree.nd rfl (Or.inl rfl) (by exact (pe_lst pa_nil))))
      (by exact (pss_cons (by exact (ps_for PassesOwn.never rfl (by exact (k_sq (K := K) rfl (by exact (pe_mcal (by exact (pv 0)) T.cl_Hitter c_Hitter_ordered (hr.mono (by first | decide | omega)) (by exact (pa_cons (by exact (k_sub (K := K) rfl hu1 (by exact (k_fld (K := K) rfl (by exact (pv 0)) rfl)) (by exact (pv 4)) (fun _ _ => rfl) (fun _ _ => rfl))) (by exact (pa_cons (by exact (pv 2)) pa_nil (by rfl))) (by rfl))))))) (by exact (pg_name (i := 7) sc_Hitter_tree.nd rfl (Or.inl rfl))) (by exact (pss_cons (by exact (ps_expr (by exact (pe_bm PySem.F.plainAttrs_list PySem.F.slot_list_append PySem.F.type_list_append mt_append (by exact (pv 6)) (by exact (pa_cons (by exact (pe_tup (by exact (pa_cons (by exact (pv 7)) (by exact (pa_cons (by exact (pe_mcal (by exact (pv 0)) T.cl_Hitter c_Hitter_tree (hr.mono (by first | decide | omega)) (by exact (pa_cons (by exact (k_add (K := K) rfl (by exact (pv 1)) (by exact (pe_lst (by exact (pa_cons (by exact (pv 7)) pa_nil (by rfl))))))) (by exact (pa_cons (by exact (pv 5)) (by exact (pa_cons (by exact (pv 3)) pa_nil (by rfl))) (by rfl))) (by rfl))))) pa_nil (by rfl))) (by rfl))))) pa_nil (by rfl)))))))
      (by exact (pss_one (by exact (ps_expr (by exact (pe_bm PySem.F.plainAttrs_list PySem.F.slot_list_append PySem.F.type_list_append mt_append (by exact (pv 5)) (by exact (pa_cons (by exact (pv 7)) pa_nil (by rfl)))))))))))))
      (by exact (pss_one (by exact (ps_ret (by exact (pe_tup (by exact (pa_cons (by exact (pv 4)) (by exact (pa_cons (by exact (k_tupleOf (K := K) rfl (by rfl) T.n_tuple (by exact (pv 6)) (by rfl))) pa_nil (by rfl))) (by rfl))))))))))))))))))))))), fun S R h => ?_⟩
    obtain ⟨h, c, b, low, m1, m2, m3, rfl, hm1, hm2, hm3, go, hlt, hlow, hR⟩ := h
    have t1 := T.cl_Hitter; have t2 := T.f_sets; have t5 := T.f_nodes
    clear hu1 hu64 hu65 hr F T
    refine ⟨[0], by decide, fun i hi m' hm' => by simp at hi; subst hi; cases hm'; rfl, ?_⟩
    refine st_imp (show slot0 _ [M.o (hitD CH h), m1, m2, m3] = [M.o (hitD CH h), m1, m2, m3, .no, .no, .no, .no] from rfl) ?_
    refine st_seq (st_fld t1 t5 (EvP.n (d := .int (h.nodes + 1)) (by walk_at "ev") ⟨_, _, rfl, by decide, ?_⟩))
    show StN K [0] _ [M.o (hitD CH { h with nodes := h.nodes + 1 }), m1, m2, m3, .no, .no, .no, .no] _
    have hR1 : ∀ (t : Tr) (k' : Int), ({ h with nodes := h.nodes + 1 } : Hit).nodes ≤ k' → k' + 1 ≤ ({ h with nodes := h.nodes + 1 } : Hit).nodes + 2 ^ (undec h.U c b).length → chk h.sets h.pr low t c b = true → (t.size : Int) ≤ 2 ^ (undec h.U c b).length → t.depth ≤ (undec h.U c b).length + 1 → R (trD t) [.o (hitD CH { ({ h with nodes := h.nodes + 1 } : Hit) with nodes := k' }), .no, .no, .no] :=
      fun t k' z1 z2 z3 z4 z5 => hR t k' (by dsimp only at z1; omega) (by dsimp only at z2; omega) z3 z4 z5
    have few : ({ h with nodes := h.nodes + 1 } : Hit).nodes + 2 ^ (undec h.U c b).length ≤ 20001 := by have := go.few; dsimp only; omega
    have ok : HitOk { h with nodes := h.nodes + 1 } := ⟨go.ok.ndU, go.ok.pos, go.ok.sub, go.ok.nds, go.ok.ulen, go.ok.slen⟩
    have nn : 0 ≤ ({ h with nodes := h.nodes + 1 } : Hit).nodes := by have := go.nn; dsimp only; omega
    have few1 : ({ h with nodes := h.nodes + 1 } : Hit).nodes ≤ 20000 := by have := go.few; have := pow_pos (undec h.U c b).length; dsimp only; omega
    obtain ⟨h1, eh1⟩ : ∃ h1, { h with nodes := h.nodes + 1 } = h1 := ⟨_, rfl⟩
    have hR : ∀ (t : Tr) (k' : Int), h1.nodes ≤ k' → k' + 1 ≤ h1.nodes + 2 ^ (undec h1.U c b).length → chk h1.sets h1.pr low t c b = true → (t.size : Int) ≤ 2 ^ (undec h1.U c b).length → t.depth ≤ (undec h1.U c b).length + 1 → R (trD t) [.o (hitD CH { h1 with nodes := k' }), .no, .no, .no] := by
      subst eh1; exact hR1
    have best : BestOk h1.pr h1.sets h1.U h1.best h1.least := by subst eh1; exact go.best
    have subc : ∀ t ∈ c, t ∈ h1.U := by subst eh1; exact go.subc
    have subb : ∀ t ∈ b, t ∈ h1.U := by subst eh1; exact go.subb
    have hlt : (undec h1.U c b).length < n + 1 := by subst eh1; exact hlt
    have few : h1.nodes + 2 ^ (undec h1.U c b).length ≤ 20001 := by subst eh1; exact few
    have hlow : ∀ T, Feas h1.sets h1.U T → low ≤ costOf h1.pr T := by subst eh1; exact hlow
    rw [eh1] at ok nn few1 ⊢
    have ndc := go.ndc
    have ndb := go.ndb
    have dis := go.dis
    have lc : c.length ≤ 10 := Nat.le_trans (nd_len ndc subc) ok.ulen
    have lb : b.length ≤ 10 := Nat.le_trans (nd_len ndb subb) ok.ulen
    clear eh1 hR1 go
    refine' st_seq (st_ifP ?tt ?h1 ?h2)
    case tt => walk_at "ev"
    case h1 => intro hb; have := of_decide_eq_true hb; omega
    case h2 =>
    intro _
    refine st_nil (st_seq (st_if (tpn_test (evn_op (evn_meth (m := .o (hitD CH h1)) rfl ⟨hitN, hitX h1, rfl, rfl, by decide +kernel⟩ (arn_b rfl hm1 (arn_nil ⟨(by simp [arChk, arOne, slots, ndB, Ar.slot?, M.own, arV, List.filterMap_cons, rdB_o, rdB_b, rdB_d, rdB_of hm1]), h1, c, m1.toB, rfl, rd_toB hm1, subc, by omega, ?fin⟩)))))))
    case fin =>
      show EvN K _ [M.o (hitD CH h1), m1, m2, m3, .no, .no, .no, .no] _
      refine' EvP.n (d := .int low) ?lw ⟨.bl (decide (low ≤ costOf h1.pr c)), v_ge, _, rfl, fun hb => ?ret, fun hb => ?go⟩
      case lw => exact EvB.int (by walk_at "ev")
      case ret =>
        refine st_retP (d := .tup []) (by walk_at "ev") ⟨by show 4 ≤ 8; decide, ?_⟩
        have := hR .leaf h1.nodes (Int.le_refl _) (by have := pow_pos (undec h1.U c b).length; omega) (by unfold chk; exact hb) (by unfold Tr.size; exact pow_pos _) (by unfold Tr.depth; omega)
        unfold trD at this
        exact this
      case go =>
      have hb := of_decide_eq_false hb
      refine st_nil (st_seq (st_set (by decide) (evn_meth (m := .o (hitD CH h1)) rfl ⟨hitN, hitX h1, rfl, rfl, by decide +kernel⟩ (arn_b rfl hm1 (arn_nil ⟨(by simp [arChk, arOne, slots, ndB, Ar.slot?, M.own, arV, List.filterMap_cons, rdB_o, rdB_b, rdB_d, rdB_of hm1]), h1, c, m1.toB, rfl, rd_toB hm1, ok, fun i s hs hn => ?som, fun hh => ?non⟩)))))
      case non => exact absurd (hlow c ⟨ndc, subc, hh⟩) hb
      case som =>
        show StN K [0] _ [M.o (hitD CH h1), m1, m2, m3, .d (.int i), .no, .no, .no] _
        refine st_seq (st_setF (d := .lst (b.map D.int)) (by decide) (by walk_at "ev") ?nx)
        case nx =>
        refine st_seq (st_setF (d := .lst []) (by decide) (by walk_at "ev") ?nx2)
        case nx2 =>
        show StN K [0] _ [M.o (hitD CH h1), m1, m2, m3, .d (.int i), .o (.lst (b.map D.int)), .o (.lst []), .no] _
        have hs' : s ∈ h1.sets := List.mem_of_getElem? hs
        have sU : ∀ t ∈ s, t ∈ h1.U := ok.sub s hs'
        have nds : s.Nodup := ok.nds s hs'
        have hsl : s.length ≤ 10 := Nat.le_trans (nd_len nds sU) ok.ulen
        have hat : atI (h1.sets.map fun s => D.tup (s.map D.int)) (i : Int) = some (.tup (s.map D.int)) := by
          refine atI_nat ?_
          rw [List.getElem?_map, hs]; rfl
        refine st_seq (st_forNT (vs := [7]) D.int (fun xs pre S' => List.Perm xs (HM.freeOf s b) ∧ ∃ (bs : List (Int × Tr)) (k' : Int) (a7 : M), S' = [M.o (hitD CH { h1 with nodes := k' }), m1, m2, m3, .d (.int i), .o (.lst ((b ++ pre).map D.int)), .o (.lst (bs.map brD)), a7] ∧
          bs.map (·.1) = pre ∧ chks h1.sets h1.pr low bs c b = true ∧ (Tr.sizes bs : Int) + 2 ^ ((undec h1.U c b).length - pre.length) ≤ 0 + 2 ^ (undec h1.U c b).length ∧ Tr.depths bs ≤ (undec h1.U c b).length ∧
          h1.nodes ≤ k' ∧ k' + 2 ^ ((undec h1.U c b).length - pre.length) ≤ h1.nodes + 2 ^ (undec h1.U c b).length) ?wk (by decide) ?ht ?hd)
        case wk =>
          refine wkn_lst (evn_meth (m := .o (hitD CH h1)) rfl ⟨hitN, hitX h1, rfl, rfl, by decide +kernel⟩ (arn_p (d := .tup (s.map D.int)) ?ar (arn_b rfl hm2 (arn_nil ⟨(by simp [arChk, arOne, slots, ndB, Ar.slot?, M.own, arV, List.filterMap_cons, rdB_o, rdB_b, rdB_d, rdB_of hm2]), h1, s, b, .d (.tup (s.map D.int)), m2.toB, rfl, rfl, rd_toB hm2, by omega, sU, fun L pm => ⟨_, rfl, L, rfl, pm, [], h1.nodes, .no, ?_, rfl, ?_, ?_, ?_, Int.le_refl _, ?_⟩⟩))))
          case ar =>
            refine' evp_ix ?a ?b ?r
            case a => walk_at "ev"
            case b => walk_at "ev"
            case r => exact v_ixl hat
          · rw [List.append_nil]; rfl
          · simp [chks]
          · simp [Tr.sizes]
          · simp [Tr.depths]
          · rw [List.length_nil, Nat.sub_zero]; exact Int.le_refl _
        case hd =>
          rintro xs S' ⟨pm, bs, k', a7, rfl, y1, y2, y3, y4, z1, z2⟩
          have tl : bs.length ≤ 10 := by
            have e1 := congrArg List.length y1
            rw [List.length_map] at e1
            rw [e1, pm.length_eq]
            exact Nat.le_trans (List.length_filter_le _ _) hsl
          refine st_retP (d := .tup [.int i, .tup (bs.map brD)]) (by walk_at "ev") ⟨by show 4 ≤ 8; decide, ?_⟩
          have := hR (.node i bs) k' z1 (last_ z2) (by
            unfold chk
            rw [y2, Bool.and_true]
            have hil := (List.getElem?_eq_some_iff.mp hs).1
            unfold nodeOk
            rw [show ((i : Nat) : Int).toNat = i from rfl, hs, y1, Dl.isort_eq pm]
            simp only [decide_true, Bool.and_true]
            rw [decide_eq_true (show (0 : Int) ≤ (i : Int) by omega), decide_eq_true (show (i : Int) < (h1.sets.length : Int) by omega), Bool.and_self, Bool.true_and, Bool.not_eq_true', List.any_eq_false]
            exact fun t ht z => hn t ht (of_decide_eq_true z)) (by unfold Tr.size; have := last_ y3; push_cast; omega) (by unfold Tr.depth; omega)
          unfold trD at this
          rw [trDs_map] at this
          exact this
        case ht =>
          rintro xs pre a post S' e ⟨pm, bs, k', a7, rfl, y1, y2, y3, y4, z1, z2⟩
          refine ⟨_, gt_name, ?_⟩
          have frn : (HM.freeOf s b).Nodup := nds.filter _
          have xn : xs.Nodup := pm.nodup_iff.mpr frn
          have xu : ∀ x ∈ xs, x ∈ undec h1.U c b := fun x hx => by
            have := pm.mem_iff.mp hx
            unfold HM.freeOf at this
            rw [List.mem_filter] at this
            exact mem_undec.mpr ⟨sU x this.1, hn x this.1, by simpa using this.2⟩
          have xn2 : (pre ++ [a]).Nodup := by
            rw [e, show pre ++ a :: post = (pre ++ [a]) ++ post by simp] at xn
            exact (List.nodup_append.mp xn).1
          have xu2 : ∀ x ∈ pre ++ [a], x ∈ undec h1.U c b := fun x hx => xu x (by rw [e, show pre ++ a :: post = (pre ++ [a]) ++ post by simp]; exact List.mem_append_left _ hx)
          have us := undec_step ok.ndU xn2 xu2
          have ua := mem_undec.mp (xu2 a (by simp))
          have up : ∀ x ∈ pre, x ∈ h1.U ∧ x ∉ c ∧ x ∉ b := fun x hx => mem_undec.mp (xu2 x (List.mem_append_left _ hx))
          have npa : a ∉ pre := fun z => by
            rw [List.nodup_append] at xn2
            exact xn2.2.2 a z a (by simp) rfl
          have hca : c.length + 1 ≤ 100000 := by omega
          have go : GoOk { h1 with nodes := k' } (c ++ [a]) (b ++ pre) := by
            refine ⟨⟨ok.ndU, ok.pos, ok.sub, ok.nds, ok.ulen, ok.slen⟩, ?_, ?_, ?_, ?_, ?_, best, Int.le_trans nn z1, room (p := pre.length) (u := (undec h1.U c b).length) (n := h1.nodes) (by omega) (by dsimp only; omega) z2 (by omega)⟩
            · rw [List.nodup_append]
              exact ⟨ndc, by simp, fun x hx y hy q => by rw [List.mem_singleton] at hy; subst hy; subst q; exact ua.2.1 hx⟩
            · rw [List.nodup_append]
              exact ⟨ndb, (List.nodup_append.mp xn2).1, fun x hx y hy q => by subst q; exact (up x hy).2.2 hx⟩
            · intro t ht
              rcases List.mem_append.mp ht with z | z
              · exact subc t z
              · rw [List.mem_singleton] at z; rw [z]; exact ua.1
            · intro t ht
              rcases List.mem_append.mp ht with z | z
              · exact subb t z
              · exact (up t z).1
            · intro t ht hz
              rcases List.mem_append.mp ht with z | z
              · rcases List.mem_append.mp hz with y | y
                · exact dis t z y
                · exact (up t y).2.1 z
              · rw [List.mem_singleton] at z
                subst z
                rcases List.mem_append.mp hz with y | y
                · exact ua.2.2 y
                · exact npa y
          have blen : bs.length ≤ 10 := by
            have e1 := congrArg List.length y1
            rw [List.length_map] at e1
            have e2 := congrArg List.length e
            rw [List.length_append, List.length_cons, pm.length_eq] at e2
            have e3 : (HM.freeOf s b).length ≤ s.length := List.length_filter_le _ _
            omega
          refine st_seq (st_expr (evn_append rfl (evn_tup (apn_cons (EvP.n (d := .int a) (by walk_at "ev") (apn_cons (evn_meth (m := .o (hitD CH { h1 with nodes := k' })) rfl ⟨hitN, hitX { h1 with nodes := k' }, rfl, rfl, by decide +kernel⟩ (arn_p (d := .lst ((c ++ [a]).map D.int)) ?ar (arn_b (x := .lst ((b ++ pre).map D.int)) rfl rfl (arn_b rfl hm3 (arn_nil ⟨(by simp [arChk, arOne, slots, ndB, Ar.slot?, M.own, arV, List.filterMap_cons, rdB_o, rdB_b, rdB_d, rdB_of hm3]), { h1 with nodes := k' }, c ++ [a], b ++ pre, low, .d (.lst ((c ++ [a]).map D.int)), .b (.lst ((b ++ pre).map D.int)), m3.toB, rfl, rfl, rfl, rd_toB hm3, go, by dsimp only; omega, hlow, fun t k2 q1 q2 q3 q4 q5 => apn_nil ⟨by simp, _, rfl, ?ln, ?nx⟩⟩)))))))))))
          case ar =>
            refine' EvP.is (d := .lst (c.map D.int ++ [.int a])) ?h ?e
            case h =>
              refine' EvF.p (evf_op ?a ?b (v_cat ?c))
              case a => walk_at "ev"
              case b => walk_at "ev"
              case c => rw [List.length_map]; exact hca
            case e => simp
          case ln => rw [List.length_map]; omega
          case nx =>
          show StN K [0] _ [M.o (hitD CH { h1 with nodes := k2 }), m1, m2, m3, .d (.int i), .o (.lst ((b ++ pre).map D.int)), .o (.lst (bs.map brD ++ [.tup [.int a, trD t]])), .d (.int a)] _
          refine st_expr (evn_append rfl (EvP.n (d := .int a) (by walk_at "ev") ⟨_, rfl, ?_, pm, bs ++ [(a, t)], k2, .d (.int a), ?_, ?_, ?_, ?_, ?_, Int.le_trans z1 q1, ?_⟩))
          · have := nd_len go.ndb go.subb
            have := ok.ulen
            rw [List.length_map]
            dsimp only at *
            omega
          · rw [show (b ++ (pre ++ [a])).map D.int = (b ++ pre).map D.int ++ [.int a] by simp, show (bs ++ [(a, t)]).map brD = bs.map brD ++ [.tup [.int a, trD t]] by simp [brD]]; rfl
          · rw [List.map_append, y1]; rfl
          · rw [chks_append, y2, y1, Bool.true_and]; exact q3
          · rw [List.length_append, sizes_append]
            push_cast
            have q6 : (t.size : Int) ≤ 2 ^ (undec h1.U (c ++ [a]) (b ++ pre)).length := q4
            exact grow (by omega) us y3 (by omega)
          · rw [depths_append]
            dsimp only at q5
            omega
          · rw [List.length_append]
            exact grow (by omega) (by omega) z2 q2
end
open PySem L2 Evl PyProof.Rows Dl HM

/-- a problem -/
structure In (ss : List (List Int)) (U : List Int) (pr : Int → Int) : Prop where
  ndU : U.Nodup
  pos : ∀ t ∈ U, 1 ≤ pr t
  sub : ∀ s ∈ ss, ∀ t ∈ s, t ∈ U
  srt : ∀ s ∈ ss, s.Pairwise (· < ·)
  ne : ∀ s ∈ ss, s ≠ []
  ulen : U.length ≤ 10
  slen : ss.length ≤ 100
theorem In.nds {ss : List (List Int)} {U : List Int} {pr : Int → Int} (h : In ss U pr) : ∀ s ∈ ss, s.Nodup := fun s hs => (h.srt s hs).imp fun h => Int.ne_of_lt h
theorem In.hit {ss : List (List Int)} {U : List Int} {pr : Int → Int} (h : In ss U pr) : HitOk ⟨ss, U, pr, none, none, 0⟩ := ⟨h.ndU, h.pos, h.sub, h.nds, h.ulen, h.slen⟩
theorem ft {α : Type} (xs : List α) : xs.filter (fun _ => true) = xs := List.filter_eq_self.mpr fun _ _ => rfl
theorem flat_len {α : Type} : ∀ (ss : List (List α)) (n m : Nat), ss.length ≤ n → (∀ s ∈ ss, s.length ≤ m) → (ss.flatMap fun s => s).length ≤ n * m
  | [], n, m, _, _ => Nat.zero_le _
  | s :: ss, 0, m, h, _ => by simp at h
  | s :: ss, n + 1, m, h, k => by
    have := flat_len ss n m (by simpa using h) fun t ht => k t (List.mem_cons_of_mem _ ht)
    have h1 := k s (by simp)
    rw [List.flatMap_cons, List.length_append, Nat.succ_mul]
    omega
theorem undec_nil (U : List Int) : undec U [] [] = U := by
  unfold undec
  exact List.filter_eq_self.mpr fun t _ => rfl
theorem In.go {ss : List (List Int)} {U : List Int} {pr : Int → Int} (h : In ss U pr) : GoOk ⟨ss, U, pr, none, none, 0⟩ [] [] := by
  refine ⟨h.hit, List.nodup_nil, List.nodup_nil, fun t ht => (by cases ht), fun t ht => (by cases ht), fun t ht => (by cases ht), trivial, Int.le_refl _, ?_⟩
  rw [undec_nil]
  have := pow_le h.ulen
  have e : (2 : Int) ^ 10 = 1024 := by decide
  dsimp only
  omega
section
variable {P : Program} {w : World} {K : PySem.W.Frag} {mg : PySem.Str → Option Value} {base : Heap} {CH : Addr}
abbrev s_Hitter_init : Stmt := inClass (top 6) 0
theorem sc_Hitter_init : FnScope ["self", "sets", "prices"] ["self", "sets", "prices"] (defScope s_Hitter_init) := ⟨rfl, rfl, rfl, by decide +kernel, rfl, by decide +kernel, by decide +kernel⟩
def ct_init (CH : Addr) : Ct := fun S R => ∃ (ss : List (List Int)) (U : List Int) (pr : Int → Int), S = [.o (.ins CH [] []), .d (setsD ss), .d (priD U pr)] ∧ R .non [.o (hitD CH ⟨ss, U, pr, none, none, 0⟩), .no, .no]
theorem c_Hitter (F : InitAt K mg "Hitter" CH "__init__" "Hitter.__init__" s_Hitter_init ["self", "sets", "prices"]) (T : Txt K mg CH) : ICal P w K mg base "Hitter" CH 1 ["self", "sets", "prices"] (spD K (ct_init CH)) := by
  refine okI F sc_Hitter_init (fun S R h => ?_) fun f cdv A outer s H E hr => ?_
  · obtain ⟨ss, U, pr, rfl, _⟩ := h; rfl
  have hu1 := hu1_of hr
  have hu64 := hu64_of hr
  have hu65 := hu65_of hr
  refine ⟨_, (by exact (pss_cons (by exact (ps_fld (by exact (pv 0)) (by exact (pv 1)) rfl))
      (by exact (pss_cons (by exact (ps_fld (by exact (pv 0)) (by exact (pv 2)) rfl))
      (by exact (pss_cons (by exact (ps_fld (by exact (pv 0)) (by exact pe_non) rfl))
      (by exact (pss_cons (by exact (ps_fld (by exact (pv 0)) (by exact pe_non) rfl))
      (by exact (pss_one (by exact (ps_fld (by exact (pv 0)) (by exact pe_int) rfl)))))))))))), fun S R h => ?_⟩
  obtain ⟨ss, U, pr, rfl, hR⟩ := h
  have t1 := T.cl_Hitter; have t2 := T.f_sets; have t3 := T.f_prices; have t4 := T.f_best; have t5 := T.f_least; have t6 := T.f_nodes
  clear hu1 hu64 hu65 hr F T
  refine ⟨[0], by decide, fun i hi m' hm' => by simp at hi; subst hi; cases hm'; rfl, ?_⟩
  refine st_imp (show slot0 _ [M.o (.ins CH [] []), .d (setsD ss), .d (priD U pr)] = [M.o (.ins CH [] []), .d (setsD ss), .d (priD U pr)] from rfl) ?_
  refine st_seq (st_fld t1 t2 (EvP.n (d := setsD ss) (by walk_at "ev") ⟨_, _, rfl, by decide, ?_⟩))
  refine st_seq (st_fld t1 t3 (EvP.n (d := priD U pr) (by walk_at "ev") ⟨_, _, rfl, by decide, ?_⟩))
  refine st_seq (st_fld t1 t4 (EvP.n (d := .non) (by walk_at "ev") ⟨_, _, rfl, by decide, ?_⟩))
  refine st_seq (st_fld t1 t5 (EvP.n (d := .non) (by walk_at "ev") ⟨_, _, rfl, by decide, ?_⟩))
  refine st_fld t1 t6 (EvP.n (d := .int 0) (by walk_at "ev") ⟨_, _, rfl, by decide, ?_⟩)
  exact ⟨by show 3 ≤ 3; decide, hR⟩
abbrev s_are_sets : Stmt := top 7
theorem sc_are_sets : FnScope ["sets", "prices", "own", "thing"] ["sets", "prices"] (defScope s_are_sets) := ⟨rfl, rfl, rfl, by decide +kernel, rfl, by decide +kernel, by decide +kernel⟩
def ct_are : Ct := fun S R => ∃ (ss : List (List Int)) (U : List Int) (pr : Int → Int) (m1 m2 : M), S = [m1, m2] ∧ m1.rd (setsD ss) ∧ m2.rd (priD U pr) ∧ In ss U pr ∧ R (.bl true) [.no, .no]
theorem c_are_sets (F : FunAt K mg "are_sets" s_are_sets ["sets", "prices"]) (T : Txt K mg CH) : Cal P w K mg base "are_sets" 1 ["sets", "prices"] (spD K ct_are) := by
  refine okC F sc_are_sets (fun S R h => ?_) fun f cdv A outer s H E hr => ?_
  · obtain ⟨ss, U, pr, m1, m2, rfl, _⟩ := h; rfl
  have hu1 := hu1_of hr
  have hu64 := hu64_of hr
  have hu65 := hu65_of hr
  refine ⟨_, (by exact (pss_cons (by exact (ps_if (by exact (pt_not (by exact (k_tr (K := K) rfl (by exact (k_callB (kr_all (K := K) rfl rfl) (by rfl) T.n_all (by decide +kernel) (by exact (pa_cons (by exact (pe_lc (own := [("own", 2)]) rfl sc_are_sets.nd (by exact (k_sq (K := K) rfl (by exact (pv 0)))) (blkOk_by (own := [("own", 2)]) (by kernel_rfl)) (by intros; exact (by exact (pg_name (i := 2) sc_are_sets.nd rfl (Or.inl rfl)))) (by intros; exact pts_nil) (by intros; exact (by exact (pe_and (by exact (pe_cmpR op_gt (by exact (k_callB (kr_len (K := K) rfl) (by rfl) T.n_len (by decide +kernel) (by exact (pa_cons (by exact (pv 2)) pa_nil (by rfl))) (by decide) (by decide) (by rfl) (by rfl))) (by exact pe_int) (nomark _))) (pe_one (by exact (k_eq (K := K) rfl hu64 (by exact (k_callTy (kr_list (K := K) rfl) (by rfl) T.n_list (by decide +kernel) (by exact (pa_cons (by exact (pv 2)) pa_nil (by rfl))) (by decide) (by decide) (by rfl) (by rfl))) (by exact (k_callB (kr_sortSet (w := w) rfl rfl) (by rfl) T.n_sorted (by decide +kernel) (by exact (pa_cons (by exact (k_callTy (kr_setT (K := K) (w := w) rfl rfl rfl) (by rfl) T.n_set (by decide +kernel) (by exact (pa_cons (by exact (pv 2)) pa_nil (by rfl))) (by decide) (by decide) (by rfl) (by rfl))) pa_nil (by rfl))) (by decide) (by decide) (by rfl) (by rfl))))))))) (by intro _; rfl))) pa_nil (by rfl))) (by decide) (by decide) (by rfl) (by rfl))) (fun _ => rfl))))) (by exact (pss_one (by exact (ps_ret (by exact pe_bl))))) pss_nil))
      (by exact (pss_one (by exact (ps_ret (by exact (k_callB (kr_all (K := K) rfl rfl) (by rfl) T.n_all (by decide +kernel) (by exact (pa_cons (by exact (pe_lc2 (own := [("own", 2), ("thing", 3)]) (vs1 := [3]) rfl sc_are_sets.nd (by exact (k_sq (K := K) rfl (by exact (pv 0)))) (blkOk_by (own := [("own", 2), ("thing", 3)]) (by kernel_rfl)) (by decide) (by intros; exact (by exact (pg_name (i := 2) sc_are_sets.nd rfl (Or.inl rfl)))) (by intros; exact pts_nil) (by intros; exact (by exact (k_sq (K := K) rfl (by exact (pv 2))))) (by intros; exact (by exact (pg_name (i := 3) sc_are_sets.nd rfl (Or.inl rfl)))) (by intros; exact pts_nil) (by intros; exact (by exact (pe_cmpR op_ge (by exact (pe_dget2 hu1 (by exact (pv 1)) (by exact (pv 3)) (by exact pe_int) ⟨rfl, rfl, rfl, rfl⟩)) (by exact pe_int) (nomark _)))) (by intro _; rfl))) pa_nil (by rfl))) (by decide) (by decide) (by rfl) (by rfl))))))))), fun S R h => ?_⟩
  obtain ⟨ss, U, pr, m1, m2, rfl, hm1, hm2, inn, hR⟩ := h
  clear hu1 hu64 hu65 hr F T
  have sl : ss.length ≤ 50000 := by have := inn.slen; omega
  have hm1' : m1.rd (.lst (ss.map fun s => .tup (s.map D.int))) := hm1
  have hm2' : m2.rd (.dk (U.map fun t => Sum.inl t) (U.map fun t => .int (pr t))) := hm2
  have n64 : ∀ s, s ∈ ss → s.length < 64 := fun s hs => by have := nd_len (inn.nds s hs) (inn.sub s hs); have := inn.ulen; omega
  have srt := inn.srt
  have ref : ∀ (s : List Int) (k : Int), k ∈ s ↔ k ∈ s := fun s k => Iff.rfl
  refine ⟨[], by decide, fun i hi => (by cases hi), ?_⟩
  refine st_imp (show slot0 _ [m1, m2] = [m1, m2, .no, .no] from rfl) ?_
  refine' st_seq (st_ifP (b := false) ?tt ?h1 ?h2)
  case h1 => intro hb; cases hb
  case tt =>
    refine' tpp_not (b := true) (tpp_tr (d := .bl true) ?ev rfl)
    case ev =>
      refine' EvP.b (EvP.is (d := .bl (ss.all fun _ => true)) ?h ?e)
      case e => simp
      case h =>
        refine' evp_cb ?a v_all
        case a =>
        refine' EvP.b (EvF.p ?f)
        case f =>
        refine' evf_lcA (r := fun _ => .bl true) ?w1 ?l1 ?t1
        case w1 => walk_at "wk"
        case l1 => walk_at "sz"
        case t1 =>
          intro s hs
          refine ⟨_, gt_name, ?_⟩
          refine' EvP.is (d := .bl (true && true)) ?hx2 rfl
          case hx2 =>
            refine' evp_andV ?x1 fun _ => ?x2
            case x1 =>
              refine' EvP.is (d := .bl (decide ((0 : Int) < (s.map D.int).length))) ?h3 ?e3
              case h3 => walk_at "ev"
              case e3 =>
                have := List.length_pos_iff.mpr (inn.ne s hs)
                rw [List.length_map, decide_eq_true (by omega)]
            case x2 =>
              refine' EvP.is (d := .bl (decide (s = s))) ?h4 ?e4
              case e4 => simp
              case h4 =>
                refine' evp_op ?a1 ?b1 ?r1
                case a1 => walk_at "ev"
                case b1 => walk_at "ev"
                case r1 => exact v_eqT (emb_lst emb_int) (by decide)
  case h2 =>
    intro _
    refine st_nil (st_retP (d := .bl true) ?ev ⟨by show 2 ≤ 4; decide, hR⟩)
    case ev =>
      refine' EvP.is (d := .bl ((ss.flatMap fun s => s).all fun _ => true)) ?zh ?ze
      case ze => simp
      case zh =>
        refine' evp_cb ?za v_all
        case za =>
        refine' EvP.b (EvF.p ?zf)
        case zf =>
        refine' EvF.is (evf_lc2 (xs := ss) (f := fun s => D.tup (s.map D.int)) (p := fun _ => true) (ys := fun s => s) (f1 := D.int) (p1 := fun _ _ => true) (r := fun _ _ => .bl true) ?zw1 ?zl1 ?zt1) ?ze1
        case ze1 =>
          simp only [ft, List.map_flatMap]
        case zw1 => walk_at "wk"
        case zl1 =>
          have := flat_len ss 100 10 inn.slen fun s hs => Nat.le_trans (nd_len (inn.nds s hs) (inn.sub s hs)) inn.ulen
          simp only [ft, List.length_flatMap, List.length_map]
          rw [List.length_flatMap] at this
          omega
        case zt1 =>
          intro s hs
          refine ⟨_, gt_name.weak (by simp), noown_set fun i m h => ro_noown h, tpp_yes, fun _ => ⟨?zw2, fun b hb => ⟨_, gt_name, tpp_yes, fun _ => ?zev2⟩⟩⟩
          case zw2 => walk_at "wk"
          case zev2 =>
            have hp : ∀ a, a ∈ s → lkD (U.map fun t => (Sum.inl t : Key)) (U.map fun t => D.int (pr t)) (Sum.inl a) = some (.int (pr a)) := fun a ha => lk_fun U _ (inn.sub s hs a ha)
            refine' EvP.is (d := .bl (decide ((1 : Int) ≤ pr b))) ?zh3 ?ze3
            case ze3 => rw [decide_eq_true (inn.pos b (inn.sub s hs b hb))]
            case zh3 => walk_at "ev"
abbrev s_cheapest_hit : Stmt := top 8
theorem sc_cheapest_hit : FnScope ["sets", "prices", "own", "hitter"] ["sets", "prices"] (defScope s_cheapest_hit) := ⟨rfl, rfl, rfl, by decide +kernel, rfl, by decide +kernel, by decide +kernel⟩
def ct_cheap (CH : Addr) : Ct := fun S R => ∃ (ss : List (List Int)) (U : List Int) (pr : Int → Int) (m1 : M), S = [m1, .d (priD U pr)] ∧ m1.rd (setsD ss) ∧ In ss U pr ∧ (∃ T, Feas ss U T) ∧
  ∀ (b : List Int) (v : Int), b.Pairwise (· < ·) → Feas ss U b → v = costOf pr b → (∀ T, Feas ss U T → v ≤ costOf pr T) → R (.tup [.tup (b.map D.int), .int v]) [.no, .no]
theorem c_cheapest_hit (F : FunAt K mg "cheapest_hit" s_cheapest_hit ["sets", "prices"]) (T : Txt K mg CH)
    (c_are_sets : Cal P w K mg base "are_sets" 1 ["sets", "prices"] (spD K ct_are))
    (c_Hitter : ICal P w K mg base "Hitter" CH 1 ["self", "sets", "prices"] (spD K (ct_init CH)))
    (c_Hitter_go_on : MCal P w K mg base CH "go_on" 13 ["self", "chosen", "barred"] (spD K (ct_go CH 11))) : Cal P w K mg base "cheapest_hit" 14 ["sets", "prices"] (spD K (ct_cheap CH)) := by
  refine okC F sc_cheapest_hit (fun S R h => ?_) fun f cdv A outer s H E hr => ?_
  · obtain ⟨ss, U, pr, m1, rfl, _⟩ := h; rfl
  have hu1 := hu1_of hr
  have hu64 := hu64_of hr
  have hu65 := hu65_of hr
  refine ⟨_, (by exact (pss_cons (by exact (ps_setLc (i := 0) (own := [("own", 2)]) rfl sc_cheapest_hit.nd rfl rfl (sw_true rfl rfl rfl (by decide +kernel)) (by exact (k_sq (K := K) rfl (by exact (pv 0)))) (blkOk_by (own := [("own", 2)]) (by kernel_rfl)) (by intros; exact (by exact (pg_name (i := 2) sc_cheapest_hit.nd rfl (Or.inl rfl)))) (by intros; exact pts_nil) (by intros; exact (by exact (k_tupleOf (K := K) rfl (by rfl) T.n_tuple (by exact (pv 2)) (by rfl))))))
      (by exact (pss_cons (by exact (ps_if (by exact (pt_not (by exact (k_tr (K := K) rfl (by exact (pe_cal c_are_sets (hr.mono (by first | decide | omega)) (by rfl) (by exact (pa_cons (by exact (pv 0)) (by exact (pa_cons (by exact (pv 1)) pa_nil (by rfl))) (by rfl))))) (fun _ => rfl))))) (by exact (pss_one (by exact ps_never))) pss_nil))
      (by exact (pss_cons (by exact (ps_set (i := 3) sc_cheapest_hit.nd rfl (Or.inl rfl) (by exact (pe_ical c_Hitter (hr.mono (by first | decide | omega)) (by rfl) (by exact (pa_cons (by exact (pv 0)) (by exact (pa_cons (by exact (pv 1)) pa_nil (by rfl))) (by rfl)))))))
      (by exact (pss_cons (by exact (ps_expr (by exact (pe_mcal (by exact (pv 3)) T.cl_Hitter c_Hitter_go_on (hr.mono (by first | decide | omega)) (by exact (pa_cons (by exact (pe_lst pa_nil)) (by exact (pa_cons (by exact (pe_lst pa_nil)) pa_nil (by rfl))) (by rfl)))))))
      (by exact (pss_one (by exact (ps_ret (by exact (pe_tup (by exact (pa_cons (by exact (k_fld (K := K) rfl (by exact (pv 3)) rfl)) (by exact (pa_cons (by exact (k_fld (K := K) rfl (by exact (pv 3)) rfl)) pa_nil (by rfl))) (by rfl))))))))))))))))), fun S R h => ?_⟩
  obtain ⟨ss, U, pr, m1, rfl, hm1, inn, some, hR⟩ := h
  have t1 := T.cl_Hitter; have t4 := T.f_best; have t5 := T.f_least
  clear hu1 hu64 hu65 hr F T
  have sl : ss.length ≤ 50000 := by have := inn.slen; omega
  have hm1' : m1.rd (.lst (ss.map fun s => .tup (s.map D.int))) := hm1
  refine ⟨[], by decide, fun i hi => (by cases hi), ?_⟩
  refine st_imp (show slot0 _ [m1, .d (priD U pr)] = [m1, .d (priD U pr), .no, .no] from rfl) ?_
  refine st_seq (st_setF (d := setsD ss) (by decide) ?lc ?nx)
  case lc =>
    unfold setsD
    walk_at "ev"
  case nx =>
  show StN K [] _ [.o (setsD ss), .d (priD U pr), .no, .no] _
  refine st_frz (i := 0) rfl rfl (by decide) ?_
  show StN K [] _ [.d (setsD ss), .d (priD U pr), .no, .no] _
  refine st_seq (st_if (tpn_not (tpn_tr (evn_call (arn_b (x := setsD ss) rfl rfl (arn_b (x := priD U pr) rfl rfl (arn_nil ⟨(by simp [arChk, arOne, slots, ndB, Ar.slot?, M.own, arV, List.filterMap_cons, rdB_o, rdB_b, rdB_d]), ss, U, pr, .d (setsD ss), .d (priD U pr), rfl, rfl, rfl, inn, true, rfl, fun hb => ?c1, fun _ => st_nil ?c2⟩)))))))
  case c1 => cases hb
  case c2 =>
  show StN K [] _ [.d (setsD ss), .d (priD U pr), .no, .no] _
  refine st_seq (st_seto (by decide) (evo_make (arn_p (d := setsD ss) ?a1 (arn_p (d := priD U pr) ?a2 (arn_nil ⟨(by simp [arChk, arOne, slots, ndB, Ar.slot?, M.own, arV, List.filterMap_cons, rdB_o, rdB_b, rdB_d]), ss, U, pr, rfl, rfl, _, _, rfl, ?c3⟩)))))
  case a1 => walk_at "ev"
  case a2 => walk_at "ev"
  case c3 =>
  show StN K [] _ [.d (setsD ss), .d (priD U pr), .no, .o (hitD CH ⟨ss, U, pr, none, none, 0⟩)] _
  refine st_seq (st_expr (evn_meth (m := .o (hitD CH ⟨ss, U, pr, none, none, 0⟩)) rfl ⟨hitN, hitX ⟨ss, U, pr, none, none, 0⟩, rfl, rfl, by decide +kernel⟩ (arn_p (d := .lst []) ?a3 (arn_p (d := .lst []) ?a4 (arn_nil ⟨(by simp [arChk, arOne, slots, ndB, Ar.slot?, M.own, arV, List.filterMap_cons, rdB_o, rdB_b, rdB_d]), ⟨ss, U, pr, none, none, 0⟩, [], [], .d (.lst []), .d (.lst []), rfl, rfl, rfl, inn.go, ?c4, fun b' l' k' y1 y2 y3 y4 y5 => ?c5⟩)))))
  case a3 => exact EvF.p (by walk_at "ev")
  case a4 => exact EvF.p (by walk_at "ev")
  case c4 =>
    rw [undec_nil]
    have := inn.ulen
    show U.length < 11
    omega
  case c5 =>
  show StN K [] _ [.d (setsD ss), .d (priD U pr), .no, .o (hitD CH ⟨ss, U, pr, b', l', k'⟩)] _
  obtain ⟨T0, F0⟩ := some
  obtain ⟨v, ev, hv⟩ := y5 T0 F0 ⟨fun t ht => (by cases ht), fun t _ ht => (by cases ht)⟩
  dsimp only at y3 y5 ev
  subst ev
  cases b' with
  | none => exact y3.elim
  | some bb =>
  obtain ⟨q1, q2, q3⟩ := y3
  refine st_retP (d := .tup [.tup (bb.map D.int), .int v]) ?r1 ⟨by show 2 ≤ 4; decide, hR bb v q1 q2 q3 fun T F => ?_⟩
  case r1 =>
    refine' evp_tup (ds := [bestD (some bb), leastD (some v)]) ?b1 (by simp)
    case b1 => walk_at "ev"
  obtain ⟨u, e, hu⟩ := y5 T F ⟨fun t ht => (by cases ht), fun t _ ht => (by cases ht)⟩
  cases e
  exact hu
abbrev s_hit_tree : Stmt := top 9
theorem sc_hit_tree : FnScope ["sets", "prices", "low", "own"] ["sets", "prices", "low"] (defScope s_hit_tree) := ⟨rfl, rfl, rfl, by decide +kernel, rfl, by decide +kernel, by decide +kernel⟩
def ct_htree : Ct := fun S R => ∃ (ss : List (List Int)) (U : List Int) (pr : Int → Int) (low : Int) (m1 m3 : M), S = [m1, .d (priD U pr), m3] ∧ m1.rd (setsD ss) ∧ m3.rd (.int low) ∧ In ss U pr ∧ (∀ T, Feas ss U T → low ≤ costOf pr T) ∧
  ∀ t : Tr, chk ss pr low t [] [] = true → t.size ≤ 1024 → t.depth ≤ 11 → R (trD t) [.no, .no, .no]
theorem c_hit_tree (F : FunAt K mg "hit_tree" s_hit_tree ["sets", "prices", "low"]) (T : Txt K mg CH)
    (c_Hitter : ICal P w K mg base "Hitter" CH 1 ["self", "sets", "prices"] (spD K (ct_init CH)))
    (c_Hitter_tree : MCal P w K mg base CH "tree" 13 ["self", "chosen", "barred", "low"] (spD K (ct_tree CH 11))) : Cal P w K mg base "hit_tree" 14 ["sets", "prices", "low"] (spD K ct_htree) := by
  refine okC F sc_hit_tree (fun S R h => ?_) fun f cdv A outer s H E hr => ?_
  · obtain ⟨ss, U, pr, low, m1, m3, rfl, _⟩ := h; rfl
  have hu1 := hu1_of hr
  have hu64 := hu64_of hr
  have hu65 := hu65_of hr
  refine ⟨_, (by exact (pss_one (by exact (ps_ret (by exact (pe_mcal (by exact (pe_ical c_Hitter (hr.mono (by first | decide | omega)) (by rfl) (by exact (pa_cons (by exact (pe_lc (own := [("own", 3)]) rfl sc_hit_tree.nd (by exact (k_sq (K := K) rfl (by exact (pv 0)))) (blkOk_by (own := [("own", 3)]) (by kernel_rfl)) (by intros; exact (by exact (pg_name (i := 3) sc_hit_tree.nd rfl (Or.inl rfl)))) (by intros; exact pts_nil) (by intros; exact (by exact (k_tupleOf (K := K) rfl (by rfl) T.n_tuple (by exact (pv 3)) (by rfl)))) (by intro _; rfl))) (by exact (pa_cons (by exact (pv 1)) pa_nil (by rfl))) (by rfl))))) T.cl_Hitter c_Hitter_tree (hr.mono (by first | decide | omega)) (by exact (pa_cons (by exact (pe_lst pa_nil)) (by exact (pa_cons (by exact (pe_lst pa_nil)) (by exact (pa_cons (by exact (pv 2)) pa_nil (by rfl))) (by rfl))) (by rfl))))))))), fun S R h => ?_⟩
  obtain ⟨ss, U, pr, low, m1, m3, rfl, hm1, hm3, inn, hlow, hR⟩ := h
  have t1 := T.cl_Hitter
  clear hu1 hu64 hu65 hr F T
  have sl : ss.length ≤ 50000 := by have := inn.slen; omega
  have hm1' : m1.rd (.lst (ss.map fun s => .tup (s.map D.int))) := hm1
  refine ⟨[], by decide, fun i hi => (by cases hi), ?_⟩
  refine st_imp (show slot0 _ [m1, .d (priD U pr), m3] = [m1, .d (priD U pr), m3, .no] from rfl) ?_
  refine st_ret (evn_methf (evo_make (arn_p (d := setsD ss) ?lc (arn_p (d := priD U pr) ?pp (arn_nil ⟨(by simp [arChk, arOne, slots, ndB, Ar.slot?, M.own, arV, List.filterMap_cons, rdB_o, rdB_b, rdB_d]), ss, U, pr, rfl, rfl, _, _, rfl, hitN, hitX ⟨ss, U, pr, none, none, 0⟩, [.lst [], .lst [], .int low], rfl, by decide +kernel, ?ap,
    ⟨⟨ss, U, pr, none, none, 0⟩, [], [], low, .d (.lst []), .d (.lst []), .d (.int low), rfl, rfl, rfl, rfl, inn.go, ?un, hlow, fun t k' y1 y2 y3 y4 y5 => ⟨_, _, rfl, by show 3 ≤ 4; decide, ?fin⟩⟩⟩)))))
  case lc =>
    refine' EvF.p ?lc2
    case lc2 =>
    unfold setsD
    walk_at "ev"
  case pp => walk_at "ev"
  case ap =>
    refine' app_cons ?q1 (app_cons ?q2 (app_cons ?q3 app_nil))
    case q1 => exact EvF.p (by walk_at "ev")
    case q2 => exact EvF.p (by walk_at "ev")
    case q3 => exact EvB.int (by walk_at "ev")
  case un =>
    rw [undec_nil]
    have := inn.ulen
    show U.length < 11
    omega
  case fin =>
    have ul := inn.ulen
    have e1 : (undec U [] []).length = U.length := by rw [undec_nil]
    have y4' : (t.size : Int) ≤ 2 ^ (undec U [] []).length := y4
    have y5' : t.depth ≤ (undec U [] []).length + 1 := y5
    rw [e1] at y4' y5'
    have := pow_le ul
    have e : (2 : Int) ^ 10 = 1024 := by decide
    exact hR t y3 (by omega) (by omega)
end
open PySem L2 Evl PyProof.Rows Dl HM

def plD (p : Pl) : D := .tup [trD p.1, .tup (p.2.1.map D.int), .tup (p.2.2.map D.int)]
theorem trD_leaf : trD .leaf = .tup [] := by unfold trD; rfl
theorem trD_node (a : Int) (bs : List (Int × Tr)) : trD (.node a bs) = .tup [.int a, .tup (bs.map brD)] := by unfold trD; rw [trDs_map]
section
variable {P : Program} {w : World} {K : PySem.W.Frag} {mg : PySem.Str → Option Value} {base : Heap} {CH : Addr}
abbrev s_tree_right : Stmt := top 10
theorem sc_tree_right : FnScope ["sets", "prices", "low", "tree", "left", "here", "chosen", "barred", "thing", "at", "branches", "own", "things", "_", "away", "branch"] ["sets", "prices", "low", "tree"] (defScope s_tree_right) := ⟨rfl, rfl, rfl, by decide +kernel, rfl, by decide +kernel, by decide +kernel⟩
def ct_right : Ct := fun S R => ∃ (ss : List (List Int)) (U : List Int) (pr : Int → Int) (low : Int) (t : Tr) (m1 m2 m3 : M), S = [m1, m2, m3, .d (trD t)] ∧ m1.rd (setsD ss) ∧ m2.rd (priD U pr) ∧ m3.rd (.int low) ∧ In ss U pr ∧ t.size ≤ 4000 ∧ t.depth ≤ 18 ∧ R (.bl (chk ss pr low t [] [])) [.no, .no, .no, .no]
theorem c_tree_right (F : FunAt K mg "tree_right" s_tree_right ["sets", "prices", "low", "tree"]) (T : Txt K mg CH) : Cal P w K mg base "tree_right" 1 ["sets", "prices", "low", "tree"] (spD K ct_right) := by
  refine okC F sc_tree_right (fun S R h => ?_) fun f cdv A outer s H E hr => ?_
  · obtain ⟨ss, U, pr, low, t, m1, m2, m3, rfl, _⟩ := h; rfl
  have hu1 := hu1_of hr
  have hu64 := hu64_of hr
  have hu65 := hu65_of hr
  refine ⟨_, (by exact (pss_cons (by exact (ps_set (i := 4) sc_tree_right.nd rfl (Or.inl rfl) (by exact (pe_lst (by exact (pa_cons (by exact (pe_tup (by exact (pa_cons (by exact (pv 3)) (by exact (pa_cons (by exact (pe_tup pa_nil)) (by exact (pa_cons (by exact (pe_tup pa_nil)) pa_nil (by rfl))) (by rfl))) (by rfl))))) pa_nil (by rfl)))))))
      (by exact (pss_cons (by exact (ps_while PassesOwn.never (by exact (k_tr (K := K) rfl (by exact (pv 4)) (fun _ => rfl))) (by exact (pss_cons (by exact (ps_asg (by exact (pe_bm0 PySem.F.plainAttrs_list PySem.F.slot_list_pop PySem.F.type_list_pop mt_pop (by exact (pv 4)))) (by exact (k_tup (K := K) (n := 3) rfl rfl (by exact (pgs_cons (by exact (pg_name (i := 5) sc_tree_right.nd rfl (Or.inl rfl))) (by exact (pgs_cons (by exact (pg_name (i := 6) sc_tree_right.nd rfl (Or.inr rfl))) (by exact (pgs_cons (by exact (pg_name (i := 7) sc_tree_right.nd rfl (Or.inr rfl))) pgs_nil)))))) (by rfl) (by rfl)))))
      (by exact (pss_one (by exact (ps_if (by exact (kt_eq (K := K) rfl hu64 (by exact (pv 5)) (by exact (pe_tup pa_nil)))) (by exact (pss_one (by exact (ps_if (by exact (pt_cmpR op_lt (by exact (k_callB (kr_sum (K := K) rfl rfl) (by rfl) T.n_sum (by decide +kernel) (by exact (pa_cons (by exact (pe_lc (own := [("thing", 8)]) rfl sc_tree_right.nd (by exact (k_sq (K := K) rfl (by exact (pv 6)))) (blkOk_by (own := [("thing", 8)]) (by kernel_rfl)) (by intros; exact (by exact (pg_name (i := 8) sc_tree_right.nd rfl (Or.inl rfl)))) (by intros; exact pts_nil) (by intros; exact (by exact (k_sub (K := K) rfl hu1 (by exact (pv 1)) (by exact (pv 8)) (fun _ _ => rfl) (fun _ _ => rfl)))) (by intro _; rfl))) pa_nil (by rfl))) (by decide) (by decide) (by rfl) (by rfl))) (by exact (pv 2)) (nomark _))) (by exact (pss_one (by exact (ps_ret (by exact pe_bl))))) pss_nil)))) (by exact (pss_cons (by exact (ps_if (by exact (PW.pt (by exact (by exact (pw_or (by exact (kt_ne (K := K) rfl hu64 (by exact (k_callB (kr_len (K := K) rfl) (by rfl) T.n_len (by decide +kernel) (by exact (pa_cons (by exact (pv 5)) pa_nil (by rfl))) (by decide) (by decide) (by rfl) (by rfl))) (by exact pe_int))) (by exact (pw_or1 (by exact (pt_not (by exact (pt_chain op_le op_lt (by exact pe_int) (by exact (k_sub (K := K) rfl hu1 (by exact (pv 5)) (by exact pe_int) (fun _ _ => rfl) (fun _ _ => rfl))) (by exact (k_callB (kr_len (K := K) rfl) (by rfl) T.n_len (by decide +kernel) (by exact (pa_cons (by exact (pv 0)) pa_nil (by rfl))) (by decide) (by decide) (by rfl) (by rfl)))))))))))))) (by exact (pss_one (by exact (ps_ret (by exact pe_bl))))) pss_nil))
      (by exact (pss_cons (by exact (ps_asg (by exact (pv 5)) (by exact (k_tup (K := K) (n := 2) rfl rfl (by exact (pgs_cons (by exact (pg_name (i := 9) sc_tree_right.nd rfl (Or.inl rfl))) (by exact (pgs_cons (by exact (pg_name (i := 10) sc_tree_right.nd rfl (Or.inl rfl))) pgs_nil)))) (by rfl) (by rfl)))))
      (by exact (pss_cons (by exact (ps_set (i := 11) sc_tree_right.nd rfl (Or.inl rfl) (by exact (k_sub (K := K) rfl hu1 (by exact (pv 0)) (by exact (pv 9)) (fun _ _ => rfl) (fun _ _ => rfl)))))
      (by exact (pss_cons (by exact (ps_if (by exact (k_tr (K := K) rfl (by exact (k_callB (kr_any (K := K) rfl rfl) (by rfl) T.n_any (by decide +kernel) (by exact (pa_cons (by exact (pe_lc (own := [("thing", 8)]) rfl sc_tree_right.nd (by exact (k_sq (K := K) rfl (by exact (pv 11)))) (blkOk_by (own := [("thing", 8)]) (by kernel_rfl)) (by intros; exact (by exact (pg_name (i := 8) sc_tree_right.nd rfl (Or.inl rfl)))) (by intros; exact pts_nil) (by intros; exact (by exact (k_in (K := K) rfl hu65 (by exact (pv 8)) (by exact (pv 6)) (by rfl)))) (by intro _; rfl))) pa_nil (by rfl))) (by decide) (by decide) (by rfl) (by rfl))) (fun _ => rfl))) (by exact (pss_one (by exact (ps_ret (by exact pe_bl))))) pss_nil))
      (by exact (pss_cons (by exact (ps_setLc (i := 12) (own := [("thing", 8), ("_", 13)]) rfl sc_tree_right.nd rfl rfl (sw_true rfl rfl rfl (by decide +kernel)) (by exact (k_sq (K := K) rfl (by exact (pv 10)))) (blkOk_by (own := [("thing", 8), ("_", 13)]) (by kernel_rfl)) (by intros; exact (by exact (k_tup (K := K) (n := 2) rfl rfl (by exact (pgs_cons (by exact (pg_name (i := 8) sc_tree_right.nd rfl (Or.inl rfl))) (by exact (pgs_cons (by exact (pg_name (i := 13) sc_tree_right.nd rfl (Or.inl rfl))) pgs_nil)))) (by rfl) (by rfl)))) (by intros; exact pts_nil) (by intros; exact (by exact (pv 8)))))
      (by exact (pss_cons (by exact (ps_if (by exact (kt_ne (K := K) rfl hu64 (by exact (k_callB (kr_sortI (K := K) rfl) (by rfl) T.n_sorted (by decide +kernel) (by exact (pa_cons (by exact (pv 12)) pa_nil (by rfl))) (by decide) (by decide) (by rfl) (by rfl))) (by exact (k_callB (kr_sortI (K := K) rfl) (by rfl) T.n_sorted (by decide +kernel) (by exact (pa_cons (by exact (pe_lc (own := [("thing", 8)]) rfl sc_tree_right.nd (by exact (k_sq (K := K) rfl (by exact (pv 11)))) (blkOk_by (own := [("thing", 8)]) (by kernel_rfl)) (by intros; exact (by exact (pg_name (i := 8) sc_tree_right.nd rfl (Or.inl rfl)))) (by intros; exact pts_one (by exact (kt_nin (K := K) rfl hu65 (by exact (pv 8)) (by exact (pv 7)) (by rfl)))) (by intros; exact (by exact (pv 8))) (by intro _; rfl))) pa_nil (by rfl))) (by decide) (by decide) (by rfl) (by rfl))))) (by exact (pss_one (by exact (ps_ret (by exact pe_bl))))) pss_nil))
      (by exact (pss_cons (by exact (ps_set (i := 14) sc_tree_right.nd rfl (Or.inl rfl) (by exact (k_tupleOf (K := K) rfl (by rfl) T.n_tuple (by exact (pv 7)) (by rfl)))))
      (by exact (pss_one (by exact (ps_for PassesOwn.never rfl (by exact (k_sq (K := K) rfl (by exact (pv 10)))) (by exact (k_tup (K := K) (n := 2) rfl rfl (by exact (pgs_cons (by exact (pg_name (i := 8) sc_tree_right.nd rfl (Or.inl rfl))) (by exact (pgs_cons (by exact (pg_name (i := 15) sc_tree_right.nd rfl (Or.inl rfl))) pgs_nil)))) (by rfl) (by rfl))) (by exact (pss_cons (by exact (ps_expr (by exact (pe_bm PySem.F.plainAttrs_list PySem.F.slot_list_append PySem.F.type_list_append mt_append (by exact (pv 4)) (by exact (pa_cons (by exact (pe_tup (by exact (pa_cons (by exact (pv 15)) (by exact (pa_cons (by exact (k_add (K := K) rfl (by exact (pv 6)) (by exact (pe_tup (by exact (pa_cons (by exact (pv 8)) pa_nil (by rfl))))))) (by exact (pa_cons (by exact (pv 14)) pa_nil (by rfl))) (by rfl))) (by rfl))))) pa_nil (by rfl)))))))
      (by exact (pss_one (by exact (ps_set (i := 14) sc_tree_right.nd rfl (Or.inl rfl) (by exact (k_add (K := K) rfl (by exact (pv 14)) (by exact (pe_tup (by exact (pa_cons (by exact (pv 8)) pa_nil (by rfl)))))))))))))))))))))))))))))))))))))))
      (by exact (pss_one (by exact (ps_ret (by exact pe_bl))))))))), fun S R h => ?_⟩
  obtain ⟨ss, U, pr, low, t, m1, m2, m3, rfl, hm1, hm2, hm3, inn, hsz, hdp, hR⟩ := h
  clear hu1 hu64 hu65 hr F T
  have sl : ss.length ≤ 50000 := by have := inn.slen; omega
  have hm1' : m1.rd (.lst (ss.map fun s => .tup (s.map D.int))) := hm1
  have hm2' : m2.rd (.dk (U.map fun t => Sum.inl t) (U.map fun t => .int (pr t))) := hm2
  refine ⟨[], by decide, fun i hi => (by cases hi), ?_⟩
  refine st_imp (show slot0 _ [m1, m2, m3, .d (trD t)] = [m1, m2, m3, .d (trD t), .no, .no, .no, .no, .no, .no, .no, .no, .no, .no, .no, .no] from rfl) ?_
  refine st_seq (st_setF (d := .lst [.tup [trD t, .tup [], .tup []]]) (by decide) (by walk_at "ev") ?nx)
  case nx =>
  refine st_seq (st_while (m0 := t.size) (fun m S' => ∃ (st : List Pl) (a5 a6 a7 a8 a9 a10 a11 a12 a13 a14 a15 : M), m = plSize st ∧ S' = [m1, m2, m3, .d (trD t), .o (.lst (st.map plD)), a5, a6, a7, a8, a9, a10, a11, a12, a13, a14, a15] ∧
    (∀ p ∈ st, PlOk U p) ∧ st.all (plChk ss pr low) = chk ss pr low t [] [] ∧ plSize st ≤ 5000) ?h0 ?ht)
  case h0 =>
    refine ⟨[(t, [], [])], _, _, _, _, _, _, _, _, _, _, _, by simp [plSize], rfl, fun p hp => ?_, by simp [plChk], by simp [plSize]; omega⟩
    rw [List.mem_singleton] at hp
    subst hp
    exact ⟨fun x hx => (by cases hx), by simp; omega, by simp; omega, hdp⟩
  case ht =>
  rintro m S' ⟨st, a5, a6, a7, a8, a9, a10, a11, a12, a13, a14, a15, rfl, rfl, sok, sall, ssz⟩
  refine TpP.n (b := !(st.map plD).isEmpty) (tpp_tr (evb_varo rfl) rfl) ⟨fun hb => ?loop, fun hb => ?done⟩
  case done =>
    have e : st = [] := by
      cases st with
      | nil => rfl
      | cons _ _ => cases hb
    subst e
    refine st_retP (d := .bl true) (by walk_at "ev") ⟨by show 4 ≤ 16; decide, ?_⟩
    rw [← sall] at hR
    exact hR
  case loop =>
  rcases List.eq_nil_or_concat st with e | ⟨st', p, e⟩
  · subst e; cases hb
  clear hb
  rw [List.concat_eq_append] at e
  subst e
  obtain ⟨x, c, b⟩ := p
  have pok : PlOk U (x, c, b) := sok _ (by simp)
  have sok' : ∀ p ∈ st', PlOk U p := fun p hp => sok p (List.mem_append_left _ hp)
  rw [List.all_append, List.all_cons, List.all_nil, Bool.and_true] at sall
  rw [plSize_append] at ssz ⊢
  rw [show plSize [(x, c, b)] = x.size by simp [plSize]] at ssz ⊢
  have cl : c.length ≤ 50000 := by have := pok.cl; simp only at this; omega
  have hp : ∀ a, a ∈ c → lkD (U.map fun t => (Sum.inl t : Key)) (U.map fun t => D.int (pr t)) (Sum.inl a) = some (.int (pr a)) := fun a ha => lk_fun U _ (pok.sub a ha)
  rw [show (st' ++ [(x, c, b)]).map plD = st'.map plD ++ [.tup [trD x, .tup (c.map D.int), .tup (b.map D.int)]] by simp [plD]]
  refine st_seq (st_asg (vs := [5, 6, 7]) (by decide) (evn_pop rfl ⟨_, gt_tri, ?_⟩))
  show StN K [] _ [m1, m2, m3, .d (trD t), .o (.lst (st'.map plD)), .d (trD x), .d (.tup (c.map D.int)), .d (.tup (b.map D.int)), a8, a9, a10, a11, a12, a13, a14, a15] _
  cases x with
  | leaf =>
    rw [trD_leaf]
    refine' st_ifP (b := true) ?tt1 ?k1 ?k2
    case k2 => intro hb; cases hb
    case tt1 =>
      refine' tpp_test (evp_op (x := .tup []) (y := .tup []) ?x1 ?x2 (v_eqb rfl rfl rfl rfl rfl))
      case x1 => walk_at "ev"
      case x2 => walk_at "ev"
    case k1 =>
    intro _
    refine' st_ifP ?tt2 ?k3 ?k4
    case tt2 => walk_at "ev"
    case k3 =>
      intro hb
      refine st_retP (d := .bl false) (by walk_at "ev") ⟨by show 4 ≤ 16; decide, ?_⟩
      have e2 : chk ss pr low t [] [] = false := by
        rw [← sall, chk_leaf, decide_eq_false, Bool.and_false]
        have := of_decide_eq_true hb
        unfold costOf
        omega
      rw [e2] at hR
      exact hR
    case k4 =>
      intro hb
      refine st_nil ⟨plSize st', by simp [Tr.size], st', _, _, _, _, _, _, _, _, _, _, _, rfl, rfl, sok', ?_, by omega⟩
      rw [← sall, chk_leaf, decide_eq_true, Bool.and_true]
      have := of_decide_eq_false hb
      unfold costOf
      omega
  | node a bs =>
    obtain ⟨q1, q2, q3⟩ := tr_ok (.node a bs)
    have q4 : SeqAt.shaped (trD (.node a bs)).py = true := by
      unfold SeqAt.shaped
      have := pok.dp
      simp only at this
      rw [q2, decide_eq_true (by omega)]; rfl
    rw [trD_node] at q1 q4 ⊢
    refine' st_ifP (b := false) ?n1 ?n2 ?n3
    case n2 => intro hb; cases hb
    case n1 =>
      refine' tpp_test (evp_op (y := .tup []) ?n4 ?n5 (v_eqb q1 rfl q4 rfl rfl))
      case n4 => walk_at "ev"
      case n5 => walk_at "ev"
    case n3 =>
    intro _
    have bad : nodeOk ss a (bs.map (·.1)) c b = false → R (.bl false) [.no, .no, .no, .no] := fun h => by
      have e2 : chk ss pr low t [] [] = false := by
        rw [← sall, chk_node, h, Bool.false_and, Bool.and_false]
      rw [e2] at hR
      exact hR
    have ret : ∀ {Pp : Post} {s4 s5 s6 s7 b8 b9 b10 b11 b12 b13 b14 b15 : M}, (Pp.rt (.bl false) [m1, m2, m3, .d (trD t), s4, s5, s6, s7, b8, b9, b10, b11, b12, b13, b14, b15]) → StN K [] (tRet (tC (V.bl false))) [m1, m2, m3, .d (trD t), s4, s5, s6, s7, b8, b9, b10, b11, b12, b13, b14, b15] Pp := fun h => st_retP (d := .bl false) (by walk_at "ev") h
    refine' st_seq (st_ifP (b := ((!decide (((([D.int a, D.tup (bs.map brD)] : List D).length : Nat) : Int) = 2)) || !(decide ((0 : Int) ≤ a) && decide (a < ((ss.map fun s => D.tup (s.map D.int)).length : Nat))))) ?n6 ?n7 ?n8)
    case n6 => walk_at "ev"
    case n7 =>
      intro hb
      refine ret ⟨by show 4 ≤ 16; decide, bad ?_⟩
      unfold nodeOk
      rw [List.length_map] at hb
      have hb' : (decide ((0 : Int) ≤ a) && decide (a < (ss.length : Int))) = false := by
        cases z : (decide ((0 : Int) ≤ a) && decide (a < (ss.length : Int))) with
        | false => rfl
        | true => rw [z] at hb; simp at hb
      rw [hb', Bool.false_and]
    case n8 =>
    intro hb
    rw [List.length_map] at hb
    have h0 : 0 ≤ a ∧ a < (ss.length : Int) := by
      simp at hb
      omega
    clear hb
    obtain ⟨i, rfl⟩ : ∃ i : Nat, a = (i : Int) := ⟨a.toNat, by omega⟩
    have hi : i < ss.length := by omega
    obtain ⟨s, hs⟩ : ∃ s, ss[i]? = some s := ⟨ss[i], List.getElem?_eq_getElem hi⟩
    have hs' : s ∈ ss := List.mem_of_getElem? hs
    have hat : atI (ss.map fun s => D.tup (s.map D.int)) (i : Int) = some (.tup (s.map D.int)) := by
      refine atI_nat ?_
      rw [List.getElem?_map, hs]; rfl
    have hsl : s.length ≤ 10 := Nat.le_trans (nd_len (inn.nds s hs') (inn.sub s hs')) inn.ulen
    have sl2 : s.length ≤ 50000 := by omega
    have nok : ∀ z : Bool, ((!s.any fun t => decide (t ∈ c)) && decide (Dl.isort (bs.map (·.1)) = Dl.isort (HM.freeOf s b))) = z → nodeOk ss (i : Int) (bs.map (·.1)) c b = z := fun z e => by
      unfold nodeOk
      rw [show ((i : Nat) : Int).toNat = i from rfl, hs, decide_eq_true h0.1, decide_eq_true h0.2, ← e]
      rfl
    refine st_nil (st_seq (st_asg (vs := [9, 10]) (by decide) (EvP.n (evp_var rfl) ⟨_, gt_pair, ?_⟩)))
    refine st_seq (st_setP (d := .tup (s.map D.int)) (by decide) ?n9 ?n10)
    case n9 =>
      refine' evp_ix ?n11 ?n12 (v_ixl hat)
      case n11 => walk_at "ev"
      case n12 => walk_at "ev"
    case n10 =>
    show StN K [] _ [m1, m2, m3, .d (trD t), .o (.lst (st'.map plD)), .d (.tup [.int i, .tup (bs.map brD)]), .d (.tup (c.map D.int)), .d (.tup (b.map D.int)), a8, .d (.int i), .d (.tup (bs.map brD)), .d (.tup (s.map D.int)), a12, a13, a14, a15] _
    refine' st_seq (st_ifP (b := s.any fun t => decide (t ∈ c)) ?n13 ?n14 ?n15)
    case n13 => walk_at "ev"
    case n14 =>
      intro hb
      refine ret ⟨by show 4 ≤ 16; decide, bad (nok _ ?_)⟩
      rw [hb]; rfl
    case n15 =>
    intro hb
    have bl : bs.length ≤ 5000 := by
      have h1 : ∀ l : List (Int × Tr), l.length ≤ Tr.sizes l := fun l => by
        induction l with
        | nil => exact Nat.zero_le _
        | cons p l ih => obtain ⟨t, x⟩ := p; have := size_pos x; simp only [Tr.sizes, List.length_cons]; omega
      have := h1 bs
      simp only [Tr.size] at ssz
      omega
    have bl2 : bs.length ≤ 50000 := by omega
    refine st_nil (st_seq (st_setF (d := .lst ((bs.map (·.1)).map D.int)) (by decide) ?n16 ?n17))
    case n16 =>
      refine' EvF.is (evf_lcA (f := brD) (r := fun p => .int p.1) ?n18 ?n19 ?n20) ?n21
      case n18 => walk_at "wk"
      case n19 => exact bl2
      case n20 =>
        intro p hp
        refine ⟨_, gt_pair, ?n22⟩
        case n22 => walk_at "ev"
      case n21 => rw [List.map_map]; rfl
    case n17 =>
    show StN K [] _ [m1, m2, m3, .d (trD t), .o (.lst (st'.map plD)), .d (.tup [.int i, .tup (bs.map brD)]), .d (.tup (c.map D.int)), .d (.tup (b.map D.int)), a8, .d (.int i), .d (.tup (bs.map brD)), .d (.tup (s.map D.int)), .o (.lst ((bs.map (·.1)).map D.int)), a13, a14, a15] _
    refine' st_seq (st_ifP (b := !decide (Dl.isort (bs.map (·.1)) = Dl.isort (HM.freeOf s b))) ?n23 ?n24 ?n25)
    case n23 =>
      refine' tpp_test (evp_op ?n26 ?n27 (v_neT (emb_lst emb_int) (by decide)))
      case n26 => walk_at "ev"
      case n27 =>
        unfold HM.freeOf
        walk_at "ev"
    case n24 =>
      intro h2
      refine ret ⟨by show 4 ≤ 16; decide, bad (nok _ ?_)⟩
      rw [Bool.not_eq_true'] at h2
      rw [h2, Bool.and_false]
    case n25 =>
    intro h2
    rw [Bool.not_eq_false'] at h2
    have good : nodeOk ss (i : Int) (bs.map (·.1)) c b = true := nok _ (by rw [hb, h2]; rfl)
    have pm : List.Perm (bs.map (·.1)) (HM.freeOf s b) := isort_iff.mp (of_decide_eq_true h2)
    have thU : ∀ t ∈ bs.map (·.1), t ∈ U := fun t ht => by
      have := pm.mem_iff.mp ht
      unfold HM.freeOf at this
      rw [List.mem_filter] at this
      exact inn.sub s hs' t this.1
    refine st_nil (st_seq (st_setP (d := .tup (b.map D.int)) (by decide) ?n28 ?n29))
    case n28 => walk_at "ev"
    case n29 =>
    show StN K [] _ [m1, m2, m3, .d (trD t), .o (.lst (st'.map plD)), .d (.tup [.int i, .tup (bs.map brD)]), .d (.tup (c.map D.int)), .d (.tup (b.map D.int)), a8, .d (.int i), .d (.tup (bs.map brD)), .d (.tup (s.map D.int)), .o (.lst ((bs.map (·.1)).map D.int)), a13, .d (.tup (b.map D.int)), a15] _
    refine st_forT (vs := [8, 15]) (xs := bs) (f := brD) (fun pre S' => ∃ b8 b15 : M, S' = [m1, m2, m3, .d (trD t), .o (.lst ((st' ++ lay pre c b).map plD)), .d (.tup [.int i, .tup (bs.map brD)]), .d (.tup (c.map D.int)), .d (.tup (b.map D.int)), b8, .d (.int i), .d (.tup (bs.map brD)), .d (.tup (s.map D.int)), .o (.lst ((bs.map (·.1)).map D.int)), a13, .d (.tup ((b ++ pre.map (·.1)).map D.int)), b15])
      ?n30 (by decide) ?n31 ?n32 ?n33
    case n30 => walk_at "wk"
    case n31 => exact ⟨a8, a15, by simp [lay]⟩
    case n33 =>
      rintro S' ⟨b8, b15, rfl⟩
      refine ⟨plSize (st' ++ lay bs c b), ?_, st' ++ lay bs c b, _, _, _, _, _, _, _, _, _, _, _, rfl, rfl, fun p hp => ?_, ?_, ?_⟩
      · rw [plSize_append, lay_size]; simp only [Tr.size]; omega
      · rcases List.mem_append.mp hp with z | z
        · exact sok' p z
        · exact pok.lay thU p z
      · rw [List.all_append, ← sall, chk_node, good, Bool.true_and]
      · rw [plSize_append, lay_size]; simp only [Tr.size] at ssz; omega
    case n32 =>
      rintro pre ⟨th, x⟩ post S' e ⟨b8, b15, rfl⟩
      refine ⟨_, gt_pair, ?_⟩
      have hin : (x, c ++ [th], b ++ pre.map (·.1)) ∈ lay bs c b := by
        rw [e, show pre ++ (th, x) :: post = (pre ++ [(th, x)]) ++ post by simp]
        have key : ∀ (l : List (Int × Tr)) (r : List (Int × Tr)) (c b : List Int) (q : Pl), q ∈ lay l c b → q ∈ lay (l ++ r) c b := fun l => by
          induction l with
          | nil => intro r c b q h; simp [lay] at h
          | cons p l ih =>
            obtain ⟨t', x'⟩ := p
            intro r c b q h
            rw [lay] at h
            rw [List.cons_append, lay]
            rcases List.mem_cons.mp h with z | z
            · rw [z]; simp
            · exact List.mem_cons_of_mem _ (ih r c (b ++ [t']) q z)
        refine key _ _ _ _ _ ?_
        rw [lay_append]
        simp
      have qok := pok.lay thU _ hin
      have l1 := qok.cl
      have l2 := qok.bl
      simp only [List.length_append, List.length_singleton, List.length_map] at l1 l2
      have sp := size_pos x
      have stl : (st' ++ lay pre c b).length < 100000 := by
        have k1 := plSize_len (st' ++ lay pre c b)
        rw [plSize_append, lay_size] at k1
        have k2 : ∀ l r : List (Int × Tr), Tr.sizes l ≤ Tr.sizes (l ++ r) := fun l => by
          induction l with
          | nil => intro r; simp [Tr.sizes]
          | cons p l ih => obtain ⟨t', x'⟩ := p; intro r; have := ih r; rw [List.cons_append]; simp only [Tr.sizes]; omega
        have k3 := k2 pre ((th, x) :: post)
        rw [← e] at k3
        simp only [Tr.size] at ssz
        omega
      refine st_seq (st_expr (evn_append rfl (EvP.n (d := .tup [trD x, .tup ((c ++ [th]).map D.int), .tup ((b ++ pre.map (·.1)).map D.int)]) ?n34 ⟨_, rfl, by rw [List.length_map]; exact stl, ?n35⟩)))
      case n34 =>
        refine' evp_tup (app_cons ?n36 (app_cons ?n37 (app_cons ?n38 app_nil))) (by simp)
        case n36 => walk_at "ev"
        case n38 => walk_at "ev"
        case n37 =>
          refine' EvP.is (evp_op (x := .tup (c.map D.int)) (y := .tup [.int th]) ?n39 ?n40 (v_catt ?n41)) ?n42
          case n39 => walk_at "ev"
          case n40 => walk_at "ev"
          case n41 => simp only [List.length_map, List.length_singleton]; omega
          case n42 => simp
      case n35 =>
      refine st_setP (d := .tup ((b ++ (pre ++ [(th, x)]).map (·.1)).map D.int)) (by decide) ?n43 ⟨.d (.int th), .d (trD x), ?n44⟩
      case n43 =>
        refine' EvP.is (evp_op (x := .tup ((b ++ pre.map (·.1)).map D.int)) (y := .tup [.int th]) ?n45 ?n46 (v_catt ?n47)) ?n48
        case n45 => walk_at "ev"
        case n46 => walk_at "ev"
        case n47 => simp only [List.length_map, List.length_append, List.length_singleton]; omega
        case n48 => simp
      case n44 =>
        rw [lay_append, show (st' ++ (lay pre c b ++ [(x, c ++ [th], b ++ pre.map (·.1))])).map plD = (st' ++ lay pre c b).map plD ++ [.tup [trD x, .tup ((c ++ [th]).map D.int), .tup ((b ++ pre.map (·.1)).map D.int)]] by simp [plD]]
        rfl
end
open PySem L2 Evl PyProof.Rows Dl HM

theorem st_py : ∀ st : List Pl, (∀ p ∈ st, p.1.depth ≤ 18) → D.isPys (st.map plD) = true ∧ PyData.canLayAll0 (D.pys (st.map plD)) = true ∧ PyData.depthAll (D.pys (st.map plD)) ≤ 56
  | [], _ => ⟨rfl, rfl, Nat.zero_le _⟩
  | p :: st, h => by
    obtain ⟨h1, h2, h3⟩ := st_py st fun q hq => h q (List.mem_cons_of_mem _ hq)
    obtain ⟨k1, k2, k3⟩ := tr_ok p.1
    obtain ⟨c1, c2, c3⟩ := emb_pys emb_int p.2.1
    obtain ⟨b1, b2, b3⟩ := emb_pys emb_int p.2.2
    have hd := h p (by simp)
    refine ⟨?_, ?_, ?_⟩
    · simp [plD, D.isPys, D.isPy, h1, k1, c1, b1]
    · simp [plD, D.pys, D.py, PyData.canLay0, PyData.canLayAll0, h2, k2, c2, b2]
    · simp only [List.map_cons, plD, D.pys, D.py, PyData.depth, PyData.depthAll]
      omega
theorem sizes_len : ∀ l : List (Int × Tr), l.length ≤ Tr.sizes l
  | [] => Nat.zero_le _
  | (t, x) :: l => by have := sizes_len l; have := size_pos x; simp only [Tr.sizes, List.length_cons]; omega
theorem sizes_le : ∀ l r : List (Int × Tr), Tr.sizes l ≤ Tr.sizes (l ++ r)
  | [], r => by simp [Tr.sizes]
  | (t, x) :: l, r => by have := sizes_le l r; rw [List.cons_append]; simp only [Tr.sizes]; omega
theorem lay_left : ∀ (l r : List (Int × Tr)) (c b : List Int) (q : Pl), q ∈ lay l c b → q ∈ lay (l ++ r) c b
  | [], r, c, b, q, h => by simp [lay] at h
  | (t', x') :: l, r, c, b, q, h => by
    rw [lay] at h
    rw [List.cons_append, lay]
    rcases List.mem_cons.mp h with z | z
    · rw [z]; simp
    · exact List.mem_cons_of_mem _ (lay_left l r c (b ++ [t']) q z)
section
variable {P : Program} {w : World} {K : PySem.W.Frag} {mg : PySem.Str → Option Value} {base : Heap} {CH : Addr}
abbrev s_law_hits : Stmt := top 15
theorem sc_law_hits : FnScope ["sets", "prices", "low", "tree", "left", "turn", "own", "chosen", "barred", "thing", "things", "told", "branch", "k"] ["sets", "prices", "low", "tree"] (defScope s_law_hits) := ⟨rfl, rfl, rfl, by decide +kernel, rfl, by decide +kernel, by decide +kernel⟩
theorem c_law_hits (F : FunAt K mg "_law_hits" s_law_hits ["sets", "prices", "low", "tree"]) (T : Txt K mg CH) : Cal P w K mg base "_law_hits" 1 ["sets", "prices", "low", "tree"] (spD K ct_right) := by
  refine okC F sc_law_hits (fun S R h => ?_) fun f cdv A outer s H E hr => ?_
  · obtain ⟨ss, U, pr, low, t, m1, m2, m3, rfl, _⟩ := h; rfl
  have hu1 := hu1_of hr
  have hu64 := hu64_of hr
  have hu65 := hu65_of hr
  refine ⟨_, (by exact (pss_cons (by exact (ps_set (i := 4) sc_law_hits.nd rfl (Or.inl rfl) (by exact (pe_lst (by exact (pa_cons (by exact (pe_tup (by exact (pa_cons (by exact (pv 3)) (by exact (pa_cons (by exact (pe_tup pa_nil)) (by exact (pa_cons (by exact (pe_tup pa_nil)) pa_nil (by rfl))) (by rfl))) (by rfl))))) pa_nil (by rfl)))))))
      (by exact (pss_cons (by exact (ps_for PassesOwn.never rfl (by exact (pi_range1 rfl T.n_range (by exact (pa_cons (by exact pe_int) pa_nil (by rfl))))) (by exact (pg_name (i := 5) sc_law_hits.nd rfl (Or.inl rfl))) (by exact (pss_cons (by exact (ps_if (by exact (kt_eq (K := K) rfl hu64 (by exact (pv 4)) (by exact (pe_lst pa_nil)))) (by exact (pss_one (by exact (ps_ret (by exact pe_bl))))) pss_nil))
      (by exact (pss_cons (by exact (ps_asg (by exact (pe_bm0 PySem.F.plainAttrs_list PySem.F.slot_list_pop PySem.F.type_list_pop mt_pop (by exact (pv 4)))) (by exact (k_tup (K := K) (n := 3) rfl rfl (by exact (pgs_cons (by exact (pg_name (i := 6) sc_law_hits.nd rfl (Or.inl rfl))) (by exact (pgs_cons (by exact (pg_name (i := 7) sc_law_hits.nd rfl (Or.inr rfl))) (by exact (pgs_cons (by exact (pg_name (i := 8) sc_law_hits.nd rfl (Or.inr rfl))) pgs_nil)))))) (by rfl) (by rfl)))))
      (by exact (pss_one (by exact (ps_if (by exact (kt_eq (K := K) rfl hu64 (by exact (pv 6)) (by exact (pe_tup pa_nil)))) (by exact (pss_one (by exact (ps_if (by exact (pt_cmpR op_lt (by exact (k_callB (kr_sum (K := K) rfl rfl) (by rfl) T.n_sum (by decide +kernel) (by exact (pa_cons (by exact (pe_lc (own := [("thing", 9)]) rfl sc_law_hits.nd (by exact (k_sq (K := K) rfl (by exact (pv 7)))) (blkOk_by (own := [("thing", 9)]) (by kernel_rfl)) (by intros; exact (by exact (pg_name (i := 9) sc_law_hits.nd rfl (Or.inl rfl)))) (by intros; exact pts_nil) (by intros; exact (by exact (k_sub (K := K) rfl hu1 (by exact (pv 1)) (by exact (pv 9)) (fun _ _ => rfl) (fun _ _ => rfl)))) (by intro _; rfl))) pa_nil (by rfl))) (by decide) (by decide) (by rfl) (by rfl))) (by exact (pv 2)) (nomark _))) (by exact (pss_one (by exact (ps_ret (by exact pe_bl))))) pss_nil)))) (by exact (pss_one (by exact (ps_if (by exact (PW.pt (by exact (by exact (pw_or (by exact (kt_ne (K := K) rfl hu64 (by exact (k_callB (kr_len (K := K) rfl) (by rfl) T.n_len (by decide +kernel) (by exact (pa_cons (by exact (pv 6)) pa_nil (by rfl))) (by decide) (by decide) (by rfl) (by rfl))) (by exact pe_int))) (by exact (pw_or1 (by exact (pt_not (by exact (pt_chain op_le op_lt (by exact pe_int) (by exact (k_sub (K := K) rfl hu1 (by exact (pv 6)) (by exact pe_int) (fun _ _ => rfl) (fun _ _ => rfl))) (by exact (k_callB (kr_len (K := K) rfl) (by rfl) T.n_len (by decide +kernel) (by exact (pa_cons (by exact (pv 0)) pa_nil (by rfl))) (by decide) (by decide) (by rfl) (by rfl)))))))))))))) (by exact (pss_one (by exact (ps_ret (by exact pe_bl))))) (by exact (pss_cons (by exact (ps_set (i := 10) sc_law_hits.nd rfl (Or.inl rfl) (by exact (k_sub (K := K) rfl hu1 (by exact (pv 0)) (by exact (k_sub (K := K) rfl hu1 (by exact (pv 6)) (by exact pe_int) (fun _ _ => rfl) (fun _ _ => rfl))) (fun _ _ => rfl) (fun _ _ => rfl)))))
      (by exact (pss_cons (by exact (ps_setLc (i := 11) (own := [("branch", 12)]) rfl sc_law_hits.nd rfl rfl (sw_true rfl rfl rfl (by decide +kernel)) (by exact (k_sq (K := K) rfl (by exact (k_sub (K := K) rfl hu1 (by exact (pv 6)) (by exact pe_int) (fun _ _ => rfl) (fun _ _ => rfl))))) (blkOk_by (own := [("branch", 12)]) (by kernel_rfl)) (by intros; exact (by exact (pg_name (i := 12) sc_law_hits.nd rfl (Or.inl rfl)))) (by intros; exact pts_nil) (by intros; exact (by exact (k_sub (K := K) rfl hu1 (by exact (pv 12)) (by exact pe_int) (fun _ _ => rfl) (fun _ _ => rfl))))))
      (by exact (pss_cons (by exact (ps_if (by exact (PW.pt (by exact (by exact (pw_or (by exact (kt_ne (K := K) rfl hu64 (by exact (pe_lc (own := [("thing", 9)]) rfl sc_law_hits.nd (by exact (k_sq (K := K) rfl (by exact (pv 10)))) (blkOk_by (own := [("thing", 9)]) (by kernel_rfl)) (by intros; exact (by exact (pg_name (i := 9) sc_law_hits.nd rfl (Or.inl rfl)))) (by intros; exact pts_one (by exact (kt_in (K := K) rfl hu65 (by exact (pv 9)) (by exact (pv 7)) (by rfl)))) (by intros; exact (by exact (pv 9))) (by intro _; rfl))) (by exact (pe_lst pa_nil)))) (by exact (pw_or1 (by exact (kt_ne (K := K) rfl hu64 (by exact (k_callB (kr_sortI (K := K) rfl) (by rfl) T.n_sorted (by decide +kernel) (by exact (pa_cons (by exact (pv 11)) pa_nil (by rfl))) (by decide) (by decide) (by rfl) (by rfl))) (by exact (k_callB (kr_sortI (K := K) rfl) (by rfl) T.n_sorted (by decide +kernel) (by exact (pa_cons (by exact (pe_lc (own := [("thing", 9)]) rfl sc_law_hits.nd (by exact (k_sq (K := K) rfl (by exact (pv 10)))) (blkOk_by (own := [("thing", 9)]) (by kernel_rfl)) (by intros; exact (by exact (pg_name (i := 9) sc_law_hits.nd rfl (Or.inl rfl)))) (by intros; exact pts_one (by exact (kt_nin (K := K) rfl hu65 (by exact (pv 9)) (by exact (pv 8)) (by rfl)))) (by intros; exact (by exact (pv 9))) (by intro _; rfl))) pa_nil (by rfl))) (by decide) (by decide) (by rfl) (by rfl)))))))))))) (by exact (pss_one (by exact (ps_ret (by exact pe_bl))))) pss_nil))
      (by exact (pss_one (by exact (ps_for PassesOwn.never rfl (by exact (pi_range1 rfl T.n_range (by exact (pa_cons (by exact (k_callB (kr_len (K := K) rfl) (by rfl) T.n_len (by decide +kernel) (by exact (pa_cons (by exact (pv 11)) pa_nil (by rfl))) (by decide) (by decide) (by rfl) (by rfl))) pa_nil (by rfl))))) (by exact (pg_name (i := 13) sc_law_hits.nd rfl (Or.inl rfl))) (by exact (pss_one (by exact (ps_expr (by exact (pe_bm PySem.F.plainAttrs_list PySem.F.slot_list_append PySem.F.type_list_append mt_append (by exact (pv 4)) (by exact (pa_cons (by exact (pe_tup (by exact (pa_cons (by exact (k_sub (K := K) rfl hu1 (by exact (k_sub (K := K) rfl hu1 (by exact (k_sub (K := K) rfl hu1 (by exact (pv 6)) (by exact pe_int) (fun _ _ => rfl) (fun _ _ => rfl))) (by exact (pv 13)) (fun _ _ => rfl) (fun _ _ => rfl))) (by exact pe_int) (fun _ _ => rfl) (fun _ _ => rfl))) (by exact (pa_cons (by exact (k_add (K := K) rfl (by exact (pv 7)) (by exact (pe_tup (by exact (pa_cons (by exact (k_sub (K := K) rfl hu1 (by exact (pv 11)) (by exact (pv 13)) (fun _ _ => rfl) (fun _ _ => rfl))) pa_nil (by rfl))))))) (by exact (pa_cons (by exact (k_add (K := K) rfl (by exact (pv 8)) (by exact (k_tupleOf (K := K) rfl (by rfl) T.n_tuple (by exact (k_slice (K := K) rfl (by exact (pv 11)) po_none (by exact (po_some (by exact (pv 13)))))) (by rfl))))) pa_nil (by rfl))) (by rfl))) (by rfl))))) pa_nil (by rfl)))))))))))))))))))))))))))))))))
      (by exact (pss_one (by exact (ps_ret (by exact pe_non))))))))), fun S R h => ?_⟩
  obtain ⟨ss, U, pr, low, t, m1, m2, m3, rfl, hm1, hm2, hm3, inn, hsz, hdp, hR⟩ := h
  clear hu1 hu64 hu65 hr F T
  have sl : ss.length ≤ 50000 := by have := inn.slen; omega
  have hm1' : m1.rd (.lst (ss.map fun s => .tup (s.map D.int))) := hm1
  have hm2' : m2.rd (.dk (U.map fun t => Sum.inl t) (U.map fun t => .int (pr t))) := hm2
  refine ⟨[], by decide, fun i hi => (by cases hi), ?_⟩
  refine st_imp (show slot0 _ [m1, m2, m3, .d (trD t)] = [m1, m2, m3, .d (trD t), .no, .no, .no, .no, .no, .no, .no, .no, .no, .no] from rfl) ?_
  refine st_seq (st_setF (d := .lst [.tup [trD t, .tup [], .tup []]]) (by decide) (by walk_at "ev") ?nx)
  case nx =>
  refine st_seq (st_for (vs := [5]) (ds := rgD 0 60000) (fun i S' => ∃ (st : List Pl) (a5 a6 a7 a8 a9 a10 a11 a12 a13 : M), S' = [m1, m2, m3, .d (trD t), .o (.lst (st.map plD)), a5, a6, a7, a8, a9, a10, a11, a12, a13] ∧
    (∀ p ∈ st, PlOk U p) ∧ st.all (plChk ss pr low) = chk ss pr low t [] [] ∧ plSize st + i ≤ t.size) ?wk (by decide) ?h0 ?ht ?hd)
  case wk =>
    refine' wkp_rng1 (n := 60000) (EvP.b ?w1) (by decide)
    case w1 => exact EvP.is (d := .int 60000) (by walk_at "ev") rfl
  case h0 =>
    refine ⟨[(t, [], [])], _, _, _, _, _, _, _, _, _, rfl, fun p hp => ?_, by simp [plChk], by simp [plSize]⟩
    rw [List.mem_singleton] at hp
    subst hp
    exact ⟨fun x hx => (by cases hx), by simp; omega, by simp; omega, hdp⟩
  case hd =>
    rintro S' ⟨st, a5, a6, a7, a8, a9, a10, a11, a12, a13, rfl, sok, sall, ssz⟩
    rw [show (rgD 0 60000).length = 60000 by simp [rgD]] at ssz
    omega
  case ht =>
  rintro i d S' hdi ⟨st, a5, a6, a7, a8, a9, a10, a11, a12, a13, rfl, sok, sall, ssz⟩
  refine ⟨_, gt_name, ?_⟩
  show StN K [] _ [m1, m2, m3, .d (trD t), .o (.lst (st.map plD)), .d d, a6, a7, a8, a9, a10, a11, a12, a13] _
  obtain ⟨p1, p2, p3⟩ := st_py st fun p hp => (sok p hp).dp
  have shp : SeqAt.shaped (D.lst (st.map plD)).py = true := by
    unfold SeqAt.shaped
    simp only [D.py, PyData.canLay0, PyData.depth]
    rw [p2, decide_eq_true (by omega)]; rfl
  have pyp : (D.lst (st.map plD)).isPy = true := by simp only [D.isPy]; exact p1
  refine' st_seq (st_ifP (b := st.isEmpty) ?e1 ?e2 ?e3)
  case e1 =>
    refine' tpp_test (evp_op (x := .lst (st.map plD)) (y := .lst []) ?e4 ?e5 (v_eqb pyp rfl shp rfl ?e6))
    case e4 => walk_at "ev"
    case e5 => walk_at "ev"
    case e6 => cases st <;> rfl
  case e2 =>
    intro hb
    have e : st = [] := List.isEmpty_iff.mp hb
    subst e
    refine st_retP (d := .bl true) (by walk_at "ev") ⟨by show 4 ≤ 14; decide, ?_⟩
    rw [← sall] at hR
    exact hR
  case e3 =>
  intro hb
  refine st_nil ?_
  rcases List.eq_nil_or_concat st with e | ⟨st', p, e⟩
  · subst e; cases hb
  clear hb p1 p2 p3 shp pyp
  rw [List.concat_eq_append] at e
  subst e
  obtain ⟨x, c, b⟩ := p
  have pok : PlOk U (x, c, b) := sok _ (by simp)
  have sok' : ∀ p ∈ st', PlOk U p := fun p hp => sok p (List.mem_append_left _ hp)
  rw [List.all_append, List.all_cons, List.all_nil, Bool.and_true] at sall
  rw [plSize_append, show plSize [(x, c, b)] = x.size by simp [plSize]] at ssz
  have cl : c.length ≤ 50000 := by have := pok.cl; simp only at this; omega
  have hp : ∀ a, a ∈ c → lkD (U.map fun t => (Sum.inl t : Key)) (U.map fun t => D.int (pr t)) (Sum.inl a) = some (.int (pr a)) := fun a ha => lk_fun U _ (pok.sub a ha)
  rw [show (st' ++ [(x, c, b)]).map plD = st'.map plD ++ [.tup [trD x, .tup (c.map D.int), .tup (b.map D.int)]] by simp [plD]]
  refine st_seq (st_asg (vs := [6, 7, 8]) (by decide) (evn_pop rfl ⟨_, gt_tri, ?_⟩))
  show StN K [] _ [m1, m2, m3, .d (trD t), .o (.lst (st'.map plD)), .d d, .d (trD x), .d (.tup (c.map D.int)), .d (.tup (b.map D.int)), a9, a10, a11, a12, a13] _
  cases x with
  | leaf =>
    rw [trD_leaf]
    refine' st_ifP (b := true) ?tt1 ?k1 ?k2
    case k2 => intro hb; cases hb
    case tt1 =>
      refine' tpp_test (evp_op (x := .tup []) (y := .tup []) ?x1 ?x2 (v_eqb rfl rfl rfl rfl rfl))
      case x1 => walk_at "ev"
      case x2 => walk_at "ev"
    case k1 =>
    intro _
    refine' st_ifP ?tt2 ?k3 ?k4
    case tt2 => walk_at "ev"
    case k3 =>
      intro hb
      refine st_retP (d := .bl false) (by walk_at "ev") ⟨by show 4 ≤ 14; decide, ?_⟩
      have e2 : chk ss pr low t [] [] = false := by
        rw [← sall, chk_leaf, decide_eq_false, Bool.and_false]
        have := of_decide_eq_true hb
        unfold costOf
        omega
      rw [e2] at hR
      exact hR
    case k4 =>
      intro hb
      refine st_nil ⟨st', _, _, _, _, _, _, _, _, _, rfl, sok', ?_, by simp only [Tr.size] at ssz; omega⟩
      rw [← sall, chk_leaf, decide_eq_true, Bool.and_true]
      have := of_decide_eq_false hb
      unfold costOf
      omega
  | node a bs =>
    obtain ⟨q1, q2, q3⟩ := tr_ok (.node a bs)
    have q4 : SeqAt.shaped (trD (.node a bs)).py = true := by
      unfold SeqAt.shaped
      have := pok.dp
      simp only at this
      rw [q2, decide_eq_true (by omega)]; rfl
    rw [trD_node] at q1 q4 ⊢
    refine' st_ifP (b := false) ?n1 ?n2 ?n3
    case n2 => intro hb; cases hb
    case n1 =>
      refine' tpp_test (evp_op (y := .tup []) ?n4 ?n5 (v_eqb q1 rfl q4 rfl rfl))
      case n4 => walk_at "ev"
      case n5 => walk_at "ev"
    case n3 =>
    intro _
    have bad : nodeOk ss a (bs.map (·.1)) c b = false → R (.bl false) [.no, .no, .no, .no] := fun h => by
      have e2 : chk ss pr low t [] [] = false := by
        rw [← sall, chk_node, h, Bool.false_and, Bool.and_false]
      rw [e2] at hR
      exact hR
    have ret : ∀ {Pp : Post} {s4 s5 s6 s7 b8 b9 b10 b11 b12 b13 : M}, (Pp.rt (.bl false) [m1, m2, m3, .d (trD t), s4, s5, s6, s7, b8, b9, b10, b11, b12, b13]) → StN K [] (tRet (tC (V.bl false))) [m1, m2, m3, .d (trD t), s4, s5, s6, s7, b8, b9, b10, b11, b12, b13] Pp := fun h => st_retP (d := .bl false) (by walk_at "ev") h
    refine' st_ifP (b := ((!decide (((([D.int a, D.tup (bs.map brD)] : List D).length : Nat) : Int) = 2)) || !(decide ((0 : Int) ≤ a) && decide (a < ((ss.map fun s => D.tup (s.map D.int)).length : Nat))))) ?n6 ?n7 ?n8
    case n6 => walk_at "ev"
    case n7 =>
      intro hb
      refine ret ⟨by show 4 ≤ 14; decide, bad ?_⟩
      unfold nodeOk
      rw [List.length_map] at hb
      have hb' : (decide ((0 : Int) ≤ a) && decide (a < (ss.length : Int))) = false := by
        cases z : (decide ((0 : Int) ≤ a) && decide (a < (ss.length : Int))) with
        | false => rfl
        | true => rw [z] at hb; simp at hb
      rw [hb', Bool.false_and]
    case n8 =>
    intro hb
    rw [List.length_map] at hb
    have h0 : 0 ≤ a ∧ a < (ss.length : Int) := by
      simp at hb
      omega
    clear hb
    obtain ⟨j, rfl⟩ : ∃ i : Nat, a = (i : Int) := ⟨a.toNat, by omega⟩
    have hi : j < ss.length := by omega
    obtain ⟨s, hs⟩ : ∃ s, ss[j]? = some s := ⟨ss[j], List.getElem?_eq_getElem hi⟩
    have hs' : s ∈ ss := List.mem_of_getElem? hs
    have hat : atI (ss.map fun s => D.tup (s.map D.int)) (j : Int) = some (.tup (s.map D.int)) := by
      refine atI_nat ?_
      rw [List.getElem?_map, hs]; rfl
    have hsl : s.length ≤ 10 := Nat.le_trans (nd_len (inn.nds s hs') (inn.sub s hs')) inn.ulen
    have sl2 : s.length ≤ 50000 := by omega
    have nok : ∀ z : Bool, ((!s.any fun t => decide (t ∈ c)) && decide (Dl.isort (bs.map (·.1)) = Dl.isort (HM.freeOf s b))) = z → nodeOk ss (j : Int) (bs.map (·.1)) c b = z := fun z e => by
      unfold nodeOk
      rw [show ((j : Nat) : Int).toNat = j from rfl, hs, decide_eq_true h0.1, decide_eq_true h0.2, ← e]
      rfl
    have bl2 : bs.length ≤ 50000 := by
      have := sizes_len bs
      simp only [Tr.size] at ssz
      omega
    refine st_seq (st_setP (d := .tup (s.map D.int)) (by decide) ?n9 ?n10)
    case n9 =>
      refine' evp_ix ?n11 ?n12 (v_ixl hat)
      case n11 => walk_at "ev"
      case n12 => walk_at "ev"
    case n10 =>
    refine (st_seq (st_setF (d := .lst ((bs.map (·.1)).map D.int)) (by decide) ?n16 ?n17))
    case n16 =>
      refine' EvF.is (evf_lcA (f := brD) (r := fun p => .int p.1) ?n18 ?n19 ?n20) ?n21
      case n18 =>
        refine' WkP.b (wkp_tup (ds := bs.map brD) ?n49)
        case n49 => walk_at "ev"
      case n19 => exact bl2
      case n20 =>
        intro p hp
        refine ⟨_, gt_name, ?n22⟩
        case n22 =>
          unfold brD
          walk_at "ev"
      case n21 => rw [List.map_map]; rfl
    case n17 =>
    show StN K [] _ [m1, m2, m3, .d (trD t), .o (.lst (st'.map plD)), .d d, .d (.tup [.int j, .tup (bs.map brD)]), .d (.tup (c.map D.int)), .d (.tup (b.map D.int)), a9, .d (.tup (s.map D.int)), .o (.lst ((bs.map (·.1)).map D.int)), a12, a13] _
    refine' st_seq (st_ifP (b := (!decide ((s.filter fun t => decide (t ∈ c)) = [])) || !decide (Dl.isort (bs.map (·.1)) = Dl.isort (HM.freeOf s b))) ?n23 ?n24 ?n25)
    case n23 =>
      refine' tpp_or (tpp_test (evp_op (y := .lst (([] : List Int).map D.int)) ?n26 ?n27 (v_neT (emb_lst emb_int) (by decide)))) fun _ => tpp_test (evp_op ?n50 ?n51 (v_neT (emb_lst emb_int) (by decide)))
      case n26 => walk_at "ev"
      case n27 => exact EvP.b (EvF.p (evf_lst app_nil (by decide)))
      case n50 => walk_at "ev"
      case n51 =>
        unfold HM.freeOf
        walk_at "ev"
    case n24 =>
      intro h2
      refine ret ⟨by show 4 ≤ 14; decide, bad (nok _ ?_)⟩
      rcases Bool.or_eq_true_iff.mp h2 with h3 | h3
      · rw [Bool.not_eq_true'] at h3
        have : (s.any fun t => decide (t ∈ c)) = true := by
          cases z : (s.any fun t => decide (t ∈ c)) with
          | true => rfl
          | false =>
            rw [List.any_eq_false] at z
            exact absurd (List.filter_eq_nil_iff.mpr z) (of_decide_eq_false h3)
        rw [this]; rfl
      · rw [Bool.not_eq_true'] at h3
        rw [h3, Bool.and_false]
    case n25 =>
    intro h2
    rw [Bool.or_eq_false_iff, Bool.not_eq_false', Bool.not_eq_false'] at h2
    have hb : (s.any fun t => decide (t ∈ c)) = false := by
      rw [List.any_eq_false]
      exact List.filter_eq_nil_iff.mp (of_decide_eq_true h2.1)
    have good : nodeOk ss (j : Int) (bs.map (·.1)) c b = true := nok _ (by rw [hb, h2.2]; rfl)
    have pm : List.Perm (bs.map (·.1)) (HM.freeOf s b) := isort_iff.mp (of_decide_eq_true h2.2)
    have thU : ∀ t ∈ bs.map (·.1), t ∈ U := fun t ht => by
      have := pm.mem_iff.mp ht
      unfold HM.freeOf at this
      rw [List.mem_filter] at this
      exact inn.sub s hs' t this.1
    refine st_nil (st_for (vs := [13]) (ds := rgD 0 bs.length) (fun i' S' => i' ≤ bs.length ∧ ∃ b13 : M, S' = [m1, m2, m3, .d (trD t), .o (.lst ((st' ++ lay (bs.take i') c b).map plD)), .d d, .d (.tup [.int j, .tup (bs.map brD)]), .d (.tup (c.map D.int)), .d (.tup (b.map D.int)), a9, .d (.tup (s.map D.int)), .o (.lst ((bs.map (·.1)).map D.int)), a12, b13])
      ?n30 (by decide) ?n31 ?n32 ?n33)
    case n30 =>
      refine' wkp_rng1 (EvB.is (d := .int (((bs.map (·.1)).map D.int).length : Nat)) ?n52 ?n53) (by omega)
      case n52 => walk_at "ev"
      case n53 => rw [List.length_map, List.length_map]
    case n31 => exact ⟨Nat.zero_le _, a13, by simp [lay]⟩
    case n33 =>
      rintro S' ⟨_, b13, rfl⟩
      rw [show (rgD 0 bs.length).length = bs.length by simp [rgD], List.take_length]
      refine ⟨st' ++ lay bs c b, _, _, _, _, _, _, _, _, _, rfl, fun p hp => ?_, ?_, ?_⟩
      · rcases List.mem_append.mp hp with z | z
        · exact sok' p z
        · exact pok.lay thU p z
      · rw [List.all_append, ← sall, chk_node, good, Bool.true_and]
      · rw [plSize_append, lay_size]; simp only [Tr.size] at ssz; omega
    case n32 =>
      rintro k dk S' hdk ⟨hkl, b13, rfl⟩
      obtain ⟨hk, rfl⟩ := rgD_get hdk
      rw [Int.zero_add]
      refine ⟨_, gt_name, ?_⟩
      obtain ⟨⟨th, x⟩, hth⟩ : ∃ p, bs[k]? = some p := ⟨bs[k], List.getElem?_eq_getElem hk⟩
      have et : bs.take (k + 1) = bs.take k ++ [(th, x)] := by rw [List.take_add_one, hth]; rfl
      have hin : (x, c ++ [th], b ++ (bs.take k).map (·.1)) ∈ lay bs c b := by
        have key := lay_left (bs.take (k + 1)) (bs.drop (k + 1)) c b (x, c ++ [th], b ++ (bs.take k).map (·.1)) (by rw [et, lay_append]; simp)
        rwa [List.take_append_drop] at key
      have qok := pok.lay thU _ hin
      have l1 := qok.cl
      have l2 := qok.bl
      simp only [List.length_append, List.length_singleton, List.length_map] at l1 l2
      have sp := size_pos x
      have stl : (st' ++ lay (bs.take k) c b).length < 100000 := by
        have k1 := plSize_len (st' ++ lay (bs.take k) c b)
        rw [plSize_append, lay_size] at k1
        have k3 := sizes_le (bs.take k) (bs.drop k)
        rw [List.take_append_drop] at k3
        simp only [Tr.size] at ssz
        omega
      have a1 : atI (bs.map brD) (k : Int) = some (.tup [.int th, trD x]) := atI_nat (by rw [List.getElem?_map, hth]; rfl)
      have a2 : atI ((bs.map (·.1)).map D.int) (k : Int) = some (.int th) := atI_nat (by rw [List.getElem?_map, List.getElem?_map, hth]; rfl)
      refine st_expr (evn_append rfl (EvP.n (d := .tup [trD x, .tup ((c ++ [th]).map D.int), .tup ((b ++ (bs.take k).map (·.1)).map D.int)]) ?n34 ⟨_, rfl, by rw [List.length_map]; exact stl, hk, .d (.int k), ?n35⟩))
      case n34 =>
        refine' evp_tup (app_cons ?n36 (app_cons ?n37 (app_cons ?n38 app_nil))) (by simp)
        case n36 =>
          refine' evp_ix (x := .tup [.int th, trD x]) (y := .int 1) (EvP.b (evp_ix (x := .tup (bs.map brD)) (y := .int k) ?n54 ?n55 (v_ixt a1))) ?n56 (v_ixt rfl)
          case n54 => walk_at "ev"
          case n55 => walk_at "ev"
          case n56 => walk_at "ev"
        case n37 =>
          refine' EvP.is (evp_op (x := .tup (c.map D.int)) (y := .tup [.int th]) ?n39 (EvP.b (evp_tup (app_cons (evp_ix (x := .lst ((bs.map (·.1)).map D.int)) (y := .int k) ?n57 ?n58 (v_ixl a2)) app_nil) (by simp))) (v_catt ?n41)) ?n42
          case n39 => walk_at "ev"
          case n57 => walk_at "ev"
          case n58 => walk_at "ev"
          case n41 => simp only [List.length_map, List.length_singleton]; omega
          case n42 => simp
        case n38 =>
          refine' EvP.is (evp_op (x := .tup (b.map D.int)) (y := .tup (((bs.map (·.1)).map D.int).take k)) ?n59 (EvP.b (evp_then (x := .lst (((bs.map (·.1)).map D.int).take k)) ?n60 v_tupl)) (v_catt ?n61)) ?n62
          case n59 => walk_at "ev"
          case n60 =>
            refine' EvP.b (EvF.p (EvF.is (evf_sll (lo := none) (hi := some (k : Int)) ?n63 ptp_none (ptp_some ?n64)) ?n65))
            case n63 => walk_at "ev"
            case n64 => walk_at "ev"
            case n65 => rw [cutD_to]
          case n61 => simp only [List.length_map, List.length_take]; omega
          case n62 => simp [List.map_take]
      case n35 =>
        rw [et, lay_append, show (st' ++ (lay (bs.take k) c b ++ [(x, c ++ [th], b ++ (bs.take k).map (·.1))])).map plD = (st' ++ lay (bs.take k) c b).map plD ++ [.tup [trD x, .tup ((c ++ [th]).map D.int), .tup ((b ++ (bs.take k).map (·.1)).map D.int)]] by simp [plD]]
        rfl
end
open PySem L2 Evl PyProof.Rows Dl HM

section
variable {P : Program} {w : World} {K : PySem.W.Frag} {mg : PySem.Str → Option Value} {base : Heap} {CH : Addr}
abbrev s_law_pool : Stmt := top 12
theorem sc_law_pool : FnScope ["script", "budget"] ["script", "budget"] (defScope s_law_pool) := ⟨rfl, rfl, rfl, by decide +kernel, rfl, by decide +kernel, by decide +kernel⟩
theorem c_law_pool (F : FunAt K mg "_law_pool" s_law_pool ["script", "budget"]) (T : Txt K mg CH) : Cal P w K mg base "_law_pool" 1 ["script", "budget"] (spPool K) := by
  refine okR F sc_law_pool (fun vs H Q E h => ?_) fun f cdv A outer s H vs Q E hr h => ?_
  · obtain ⟨a, ns, rfl, _⟩ := h; rfl
  have hu1 := hu1_of hr
  have hu64 := hu64_of hr
  have hu65 := hu65_of hr
  refine ⟨_, (by exact (pss_one (by exact (ps_ret (by exact (pe_lst (by exact (pa_cons (by exact (k_callTy (kr_list (K := K) rfl) (by rfl) T.n_list (by decide +kernel) (by exact (pa_cons (by exact (pv 0)) pa_nil (by rfl))) (by decide) (by decide) (by rfl) (by rfl))) (by exact (pa_cons (by exact pe_int) (by exact (pa_cons (by exact pe_int) (by exact (pa_cons (by exact pe_int) (by exact (pa_cons (by exact pe_int) (by exact (pa_cons (by exact (pv 1)) pa_nil (by rfl))) (by rfl))) (by rfl))) (by rfl))) (by rfl))) (by rfl))))))))), ?_⟩
  obtain ⟨a, ns, rfl, hs, q⟩ := h
  refine ⟨_, rfl, ⟨a, _, rfl, .inl hs, fun l hl => ?_⟩⟩
  refine ⟨_, rfl, ?_⟩
  refine (show _ ∧ _ from ⟨sz_of (by simp), fun p hp => q l p hl (fun e => ?_) ?_⟩)
  · subst e; rw [upd_same] at hp; cases hp
  · by_cases e : p = l
    · subst e; exact hl
    · rwa [upd_ne e] at hp
abbrev s_law_draw : Stmt := top 13
theorem sc_law_draw : FnScope ["pool", "size", "cell", "value"] ["pool", "size"] (defScope s_law_draw) := ⟨rfl, rfl, rfl, by decide +kernel, rfl, by decide +kernel, by decide +kernel⟩
def ct_draw : Ct := fun S R => ∃ n : Int, S = [.e PoolD, .d (.int n)] ∧ 0 < n ∧ n ≤ 1000000 ∧ ∀ v : Int, 0 ≤ v → v < n → R (.int v) [.e PoolD, .no]
theorem c_law_draw (F : FunAt K mg "_law_draw" s_law_draw ["pool", "size"]) (T : Txt K mg CH) : Cal P w K mg base "_law_draw" 1 ["pool", "size"] (spD K ct_draw) := by
  refine okC F sc_law_draw (fun S R h => ?_) fun f cdv A outer s H E hr => ?_
  · obtain ⟨n, rfl, _⟩ := h; rfl
  have hu1 := hu1_of hr
  have hu64 := hu64_of hr
  have hu65 := hu65_of hr
  refine ⟨_, (by exact (pss_cons (by exact (ps_if (by exact (PW.pt (by exact (by exact (pw_and (by exact (pt_cmpR op_le (by exact (k_sub (K := K) rfl hu1 (by exact (pv 0)) (by exact pe_int) (fun _ _ => rfl) (fun _ _ => rfl))) (by exact pe_int) (nomark _))) (by exact (pw_and (by exact (pt_cmpR op_le (by exact (k_sub (K := K) rfl hu1 (by exact (pv 0)) (by exact pe_int) (fun _ _ => rfl) (fun _ _ => rfl))) (by exact pe_int) (nomark _))) (by exact (pw_and1 (by exact (pt_cmpR op_lt (by exact (k_sub (K := K) rfl hu1 (by exact (pv 0)) (by exact pe_int) (fun _ _ => rfl) (fun _ _ => rfl))) (by exact (k_callB (kr_len (K := K) rfl) (by rfl) T.n_len (by decide +kernel) (by exact (pa_cons (by exact (k_sub (K := K) rfl hu1 (by exact (pv 0)) (by exact pe_int) (fun _ _ => rfl) (fun _ _ => rfl))) pa_nil (by rfl))) (by decide) (by decide) (by rfl) (by rfl))) (nomark _)))))))))))) (by exact (pss_cons (by exact (ps_set (i := 2) sc_law_draw.nd rfl (Or.inl rfl) (by exact (k_sub (K := K) rfl hu1 (by exact (k_sub (K := K) rfl hu1 (by exact (pv 0)) (by exact pe_int) (fun _ _ => rfl) (fun _ _ => rfl))) (by exact (k_sub (K := K) rfl hu1 (by exact (pv 0)) (by exact pe_int) (fun _ _ => rfl) (fun _ _ => rfl))) (fun _ _ => rfl) (fun _ _ => rfl)))))
      (by exact (pss_cons (by exact (ps_asg (by exact (k_add (K := K) rfl (by exact (k_sub (K := K) rfl hu1 (by exact (pv 0)) (by exact pe_int) (fun _ _ => rfl) (fun _ _ => rfl))) (by exact pe_int))) (pg_sub (by exact (pv 0)) (by exact pe_int) set_list)))
      (by exact (pss_cons (by exact (ps_asg (by exact (pe_op op_modN (by exact (k_callTy cr_intU (by rfl) T.n_int (by decide +kernel) (by exact (pa_cons (by exact (k_add (K := K) rfl (by exact (pe_op op_mul (by exact (k_sub (K := K) rfl hu1 (by exact (pv 0)) (by exact pe_int) (fun _ _ => rfl) (fun _ _ => rfl))) (by exact pe_int))) (by exact (pv 2)))) pa_nil (by rfl))) (by decide) (by decide) (by rfl) (by rfl))) (by exact pe_int))) (pg_sub (by exact (pv 0)) (by exact pe_int) set_list)))
      (by exact (pss_cons (by exact (ps_asg (by exact pe_int) (pg_sub (by exact (pv 0)) (by exact pe_int) set_list)))
      (by exact (pss_one (by exact (ps_if (by exact (pt_cmpR op_ge (by exact (pv 2)) (by exact (pe_op op_pow (by exact pe_int) (by exact pe_int))) (nomark _))) (by exact (pss_one (by exact (ps_asg (by exact (pv 2)) (pg_sub (by exact (pv 0)) (by exact pe_int) set_list))))) pss_nil)))))))))))) pss_nil))
      (by exact (pss_cons (by exact (ps_if (by exact (pt_cmpR op_gt (by exact (k_sub (K := K) rfl hu1 (by exact (pv 0)) (by exact pe_int) (fun _ _ => rfl) (fun _ _ => rfl))) (by exact pe_int) (nomark _))) (by exact (pss_cons (by exact (ps_set (i := 3) sc_law_draw.nd rfl (Or.inl rfl) (by exact (pe_op op_modN (by exact (k_callTy cr_intU (by rfl) T.n_int (by decide +kernel) (by exact (pa_cons (by exact (k_sub (K := K) rfl hu1 (by exact (pv 0)) (by exact pe_int) (fun _ _ => rfl) (fun _ _ => rfl))) pa_nil (by rfl))) (by decide) (by decide) (by rfl) (by rfl))) (by exact (pv 1))))))
      (by exact (pss_cons (by exact (ps_asg (by exact (pe_op op_fdivN (by exact (k_sub (K := K) rfl hu1 (by exact (pv 0)) (by exact pe_int) (fun _ _ => rfl) (fun _ _ => rfl))) (by exact (pv 1)))) (pg_sub (by exact (pv 0)) (by exact pe_int) set_list)))
      (by exact (pss_cons (by exact (ps_asg (by exact pe_int) (pg_sub (by exact (pv 0)) (by exact pe_int) set_list)))
      (by exact (pss_one (by exact (ps_ret (by exact (pv 3)))))))))))) pss_nil))
      (by exact (pss_cons (by exact (ps_asg (by exact (pe_op op_sub (by exact (k_sub (K := K) rfl hu1 (by exact (pv 0)) (by exact pe_int) (fun _ _ => rfl) (fun _ _ => rfl))) (by exact pe_int))) (pg_sub (by exact (pv 0)) (by exact pe_int) set_list)))
      (by exact (pss_cons (by exact (ps_asg (by exact (pe_op op_modN (by exact (k_callTy cr_intU (by rfl) T.n_int (by decide +kernel) (by exact (pa_cons (by exact (k_add (K := K) rfl (by exact (pe_op op_mul (by exact (k_sub (K := K) rfl hu1 (by exact (pv 0)) (by exact pe_int) (fun _ _ => rfl) (fun _ _ => rfl))) (by exact pe_int))) (by exact pe_int))) pa_nil (by rfl))) (by decide) (by decide) (by rfl) (by rfl))) (by exact pe_int))) (pg_sub (by exact (pv 0)) (by exact pe_int) set_list)))
      (by exact (pss_one (by exact (ps_ret (by exact (pe_op op_modN (by exact (pe_op op_modN (by exact (k_callTy cr_intU (by rfl) T.n_int (by decide +kernel) (by exact (pa_cons (by exact (k_add (K := K) rfl (by exact (pe_op op_mul (by exact (k_sub (K := K) rfl hu1 (by exact (pv 0)) (by exact pe_int) (fun _ _ => rfl) (fun _ _ => rfl))) (by exact pe_int))) (by exact pe_int))) pa_nil (by rfl))) (by decide) (by decide) (by rfl) (by rfl))) (by exact pe_int))) (by exact (pv 1)))))))))))))))), fun S R h => ?_⟩
  obtain ⟨n, rfl, h0, h1, hR⟩ := h
  clear hu1 hu64 hu65 hr F T
  have hn0 : n ≠ 0 := by omega
  have hdv : CDivN (0 : Int) n := ⟨by omega, by omega⟩
  refine ⟨[0], by decide, fun i hi m' hm' => by simp at hi; subst hi; cases hm'; rfl, ?_⟩
  refine st_imp (show slot0 _ [M.e PoolD, .d (.int n)] = [M.e PoolD, .d (.int n), .no, .no] from rfl) ?_
  refine st_open (i := 0) rfl fun x hx => ?_
  obtain ⟨ns, a1, a2, a3, a4, rfl, p1⟩ := hx
  have last : ∀ (b1 b2 b3 b4 : Int) (m2 m3 : M), 0 ≤ b1 → StN K [0] (tRet (tOp modI (tOp modI (tCB intU (tCons (tOp (addU K) (tOp mulI (orE (tOp (rIx K) (tVar 0) (tC (V.int 3))) (tDGet (tVar 0) (tC (V.int 3)))) (tC (V.int 69621))) (tC (V.int 7919))) tNil)) (tC (V.int 2147483647))) (tVar 1)))
      [.o (.lst [.lst (ns.map D.int), .int b1, .int b2, .int b3, .int b4, .int 0]), .d (.int n), m2, m3] ⟨fun S' => 2 ≤ S'.length ∧ R .non (outM [0] 0 2 S'), fun d S' => 2 ≤ S'.length ∧ R d (outM [0] 0 2 S'), fun _ => False, fun _ => False⟩ := fun b1 b2 b3 b4 m2 m3 hb => by
    refine st_ret (evn_close (i := 0) (φ := PoolD) (EvP.n (d := .int (((b3 * 69621 + 7919).fmod 2147483647).fmod n)) ?ev ⟨_, rfl, ⟨ns, b1, b2, b3, b4, rfl, hb⟩, by show 2 ≤ 4; decide, hR _ (Int.fmod_nonneg_of_pos _ h0) (Int.fmod_lt_of_pos _ h0)⟩))
    case ev => walk_at "ev"
  have hnb : n.natAbs < 1073741824 := by omega
  have fin : ∀ (b1 b2 b3 b4 : Int) (m2 m3 : M), 0 ≤ b1 → StN K [0] (tSeq (tIfS (tTest (tOp gtI (orE (tOp (rIx K) (tVar 0) (tC (V.int 2))) (tDGet (tVar 0) (tC (V.int 2)))) (tC (V.int 0))))
          (tSeq (tAsg (tOp modI (tCB intU (tCons (orE (tOp (rIx K) (tVar 0) (tC (V.int 2))) (tDGet (tVar 0) (tC (V.int 2)))) tNil)) (tVar 1)) (gName 3))
            (tSeq (tAsg (tOp fdvI (orE (tOp (rIx K) (tVar 0) (tC (V.int 2))) (tDGet (tVar 0) (tC (V.int 2)))) (tVar 1)) (gSub (tVar 0) (tC (V.int 2)) rSetL))
              (tSeq (tAsg (tC (V.int 0)) (gSub (tVar 0) (tC (V.int 4)) rSetL)) (tRet (tVar 3))))) tNext)
        (tSeq (tAsg (tOp subI (orE (tOp (rIx K) (tVar 0) (tC (V.int 4))) (tDGet (tVar 0) (tC (V.int 4)))) (tC (V.int 1))) (gSub (tVar 0) (tC (V.int 4)) rSetL))
          (tSeq (tAsg (tOp modI (tCB intU (tCons (tOp (addU K) (tOp mulI (orE (tOp (rIx K) (tVar 0) (tC (V.int 3))) (tDGet (tVar 0) (tC (V.int 3)))) (tC (V.int 48271))) (tC (V.int 12345))) tNil)) (tC (V.int 2147483647))) (gSub (tVar 0) (tC (V.int 3)) rSetL))
            (tRet (tOp modI (tOp modI (tCB intU (tCons (tOp (addU K) (tOp mulI (orE (tOp (rIx K) (tVar 0) (tC (V.int 3))) (tDGet (tVar 0) (tC (V.int 3)))) (tC (V.int 69621))) (tC (V.int 7919))) tNil)) (tC (V.int 2147483647))) (tVar 1))))))
      [.o (.lst [.lst (ns.map D.int), .int b1, .int b2, .int b3, .int b4, .int 0]), .d (.int n), m2, m3] ⟨fun S' => 2 ≤ S'.length ∧ R .non (outM [0] 0 2 S'), fun d S' => 2 ≤ S'.length ∧ R d (outM [0] 0 2 S'), fun _ => False, fun _ => False⟩ := fun b1 b2 b3 b4 m2 m3 hb => by
    refine' st_seq (st_ifP (b := decide (0 < b2)) ?t1 ?t2 ?t3)
    case t1 => walk_at "ev"
    case t2 =>
      intro _
      refine st_seq (st_setP (d := .int (b2.fmod n)) (by decide) ?t4 ?t5)
      case t4 => walk_at "ev"
      case t5 =>
      refine st_seq (st_setix (j := 2) ⟨_, rfl⟩ (EvP.n (d := .int (b2.fdiv n)) ?t6 ⟨⟨_, rfl⟩, EvP.n (d := .int 2) ?t7 ⟨2, _, rfl, rfl, rfl, ?t8⟩⟩))
      case t6 => walk_at "ev"
      case t7 => walk_at "ev"
      case t8 =>
      refine st_seq (st_setix (j := 4) ⟨_, rfl⟩ (EvP.n (d := .int 0) ?t9 ⟨⟨_, rfl⟩, EvP.n (d := .int 4) ?t10 ⟨4, _, rfl, rfl, rfl, ?t11⟩⟩))
      case t9 => walk_at "ev"
      case t10 => walk_at "ev"
      case t11 =>
      refine st_ret (evn_close (i := 0) (φ := PoolD) (EvP.n (d := .int (b2.fmod n)) ?t12 ⟨_, rfl, ⟨ns, b1, b2.fdiv n, b3, 0, rfl, hb⟩, by show 2 ≤ 4; decide, hR _ (Int.fmod_nonneg_of_pos _ h0) (Int.fmod_lt_of_pos _ h0)⟩))
      case t12 => walk_at "ev"
    case t3 =>
    intro _
    refine st_nil (st_seq (st_setix (j := 4) ⟨_, rfl⟩ (EvP.n (d := .int (b4 - 1)) ?t13 ⟨⟨_, rfl⟩, EvP.n (d := .int 4) ?t14 ⟨4, _, rfl, rfl, rfl, ?t15⟩⟩)))
    case t13 => walk_at "ev"
    case t14 => walk_at "ev"
    case t15 =>
    refine st_seq (st_setix (j := 3) ⟨_, rfl⟩ (EvP.n (d := .int ((b3 * 48271 + 12345).fmod 2147483647)) ?t16 ⟨⟨_, rfl⟩, EvP.n (d := .int 3) ?t17 ⟨3, _, rfl, rfl, rfl, ?t18⟩⟩))
    case t16 => walk_at "ev"
    case t17 => walk_at "ev"
    case t18 => exact last b1 b2 _ _ m2 m3 hb
  have hlen : ∀ x : List D, ((x.length : Nat) : Int) = x.length := fun _ => rfl
  refine' st_seq (st_ifP (b := (decide (a2 ≤ 0) && (decide (a4 ≤ 0) && decide (a1 < (((ns.map D.int).length : Nat) : Int))))) ?u1 ?u2 ?u3)
  case u1 => walk_at "ev"
  case u3 => intro _; exact st_nil (fin a1 a2 a3 a4 .no .no p1)
  case u2 =>
  intro hb
  have hlt : a1 < (ns.length : Int) := by
    rw [List.length_map] at hb
    simp at hb
    exact hb.2.2
  clear hb
  obtain ⟨j, rfl⟩ : ∃ j : Nat, a1 = (j : Int) := ⟨a1.toNat, by omega⟩
  have hj : j < ns.length := by omega
  have hat : atI (ns.map D.int) (j : Int) = some (.int ns[j]) := atI_nat (by rw [List.getElem?_map, List.getElem?_eq_getElem hj]; rfl)
  generalize ns[j] = cell at hat
  refine st_seq (st_setP (d := .int cell) (by decide) ?u4 ?u5)
  case u4 => walk_at "ev"
  case u5 =>
  refine st_seq (st_setix (j := 1) ⟨_, rfl⟩ (EvP.n (d := .int ((j : Int) + 1)) ?u6 ⟨⟨_, rfl⟩, EvP.n (d := .int 1) ?u7 ⟨1, _, rfl, rfl, rfl, ?u8⟩⟩))
  case u6 => walk_at "ev"
  case u7 => walk_at "ev"
  case u8 =>
  refine st_seq (st_setix (j := 3) ⟨_, rfl⟩ (EvP.n (d := .int ((a3 * 31 + cell).fmod 2147483647)) ?u9 ⟨⟨_, rfl⟩, EvP.n (d := .int 3) ?u10 ⟨3, _, rfl, rfl, rfl, ?u11⟩⟩))
  case u9 => walk_at "ev"
  case u10 => walk_at "ev"
  case u11 =>
  refine st_seq (st_setix (j := 4) ⟨_, rfl⟩ (EvP.n (d := .int 7) ?u12 ⟨⟨_, rfl⟩, EvP.n (d := .int 4) ?u13 ⟨4, _, rfl, rfl, rfl, ?u14⟩⟩))
  case u12 => walk_at "ev"
  case u13 => walk_at "ev"
  case u14 =>
  refine' st_ifP ?u15 ?u16 ?u17
  case u15 => walk_at "ev"
  case u17 => intro _; exact st_nil (fin _ a2 _ _ _ _ (by omega))
  case u16 =>
    intro _
    refine st_setix (j := 2) ⟨_, rfl⟩ (EvP.n (d := .int cell) ?u18 ⟨⟨_, rfl⟩, EvP.n (d := .int 2) ?u19 ⟨2, _, rfl, rfl, rfl, ?u20⟩⟩)
    case u18 => walk_at "ev"
    case u19 => walk_at "ev"
    case u20 => exact fin _ cell _ _ _ _ (by omega)
end
open PySem L2 Evl PyProof.Rows Dl HM

section
variable {P : Program} {w : World} {K : PySem.W.Frag} {mg : PySem.Str → Option Value} {base : Heap} {CH : Addr}
abbrev s_law_same : Stmt := top 14
theorem sc_law_same : FnScope ["actual", "due", "k"] ["actual", "due"] (defScope s_law_same) := ⟨rfl, rfl, rfl, by decide +kernel, rfl, by decide +kernel, by decide +kernel⟩
def ct_none : Ct := fun _ _ => False
def ct_same : Ct := fun S R => (∃ a b : Int, S = [.d (.int a), .d (.int b)] ∧ R (.bl (decide (a = b))) [.no, .no]) ∨ ∃ a b : Bool, S = [.d (.bl a), .d (.bl b)] ∧ R (.bl (decide (a = b))) [.no, .no]
theorem c_law_same' (F : FunAt K mg "_law_same" s_law_same ["actual", "due"]) (T : Txt K mg CH) (c_law_same : Cal P w K mg base "_law_same" 0 ["actual", "due"] (spD K ct_none)) : Cal P w K mg base "_law_same" 1 ["actual", "due"] (spD K ct_same) := by
  refine okC F sc_law_same (fun S R h => ?_) fun f cdv A outer s H E hr => ?_
  · rcases h with ⟨a, b, rfl, _⟩ | ⟨a, b, rfl, _⟩ <;> rfl
  have hu1 := hu1_of hr
  have hu64 := hu64_of hr
  have hu65 := hu65_of hr
  refine ⟨_, (by exact (pss_cons (by exact (ps_if (by exact (PW.pt (by exact (by exact (pw_or (by exact (k_tr (K := K) rfl (by exact (k_callB (kr_isi (K := K) rfl) (by rfl) T.n_isinstance (by decide +kernel) (by exact (pa_cons (by exact (pv 1)) (by exact (pa_cons (by exact (pe_bltn (v := .ty "tuple") (by rfl) T.n_tuple (by decide +kernel) rfl)) pa_nil (by rfl))) (by rfl))) (by decide) (by decide) (by rfl) (by rfl))) (fun _ => rfl))) (by exact (pw_or1 (by exact (k_tr (K := K) rfl (by exact (k_callB (kr_isi (K := K) rfl) (by rfl) T.n_isinstance (by decide +kernel) (by exact (pa_cons (by exact (pv 1)) (by exact (pa_cons (by exact (pe_bltn (v := .ty "list") (by rfl) T.n_list (by decide +kernel) rfl)) pa_nil (by rfl))) (by rfl))) (by decide) (by decide) (by rfl) (by rfl))) (fun _ => rfl)))))))))) (by exact (pss_cons (by exact (ps_if (by exact (PW.pt (by exact (by exact (pw_or (by exact (kt_ne (K := K) rfl hu64 (by exact (k_callB (kr_isi (K := K) rfl) (by rfl) T.n_isinstance (by decide +kernel) (by exact (pa_cons (by exact (pv 1)) (by exact (pa_cons (by exact (pe_bltn (v := .ty "tuple") (by rfl) T.n_tuple (by decide +kernel) rfl)) pa_nil (by rfl))) (by rfl))) (by decide) (by decide) (by rfl) (by rfl))) (by exact (k_callB (kr_isi (K := K) rfl) (by rfl) T.n_isinstance (by decide +kernel) (by exact (pa_cons (by exact (pv 0)) (by exact (pa_cons (by exact (pe_bltn (v := .ty "tuple") (by rfl) T.n_tuple (by decide +kernel) rfl)) pa_nil (by rfl))) (by rfl))) (by decide) (by decide) (by rfl) (by rfl))))) (by exact (pw_or1 (by exact (kt_ne (K := K) rfl hu64 (by exact (k_callB (kr_isi (K := K) rfl) (by rfl) T.n_isinstance (by decide +kernel) (by exact (pa_cons (by exact (pv 1)) (by exact (pa_cons (by exact (pe_bltn (v := .ty "list") (by rfl) T.n_list (by decide +kernel) rfl)) pa_nil (by rfl))) (by rfl))) (by decide) (by decide) (by rfl) (by rfl))) (by exact (k_callB (kr_isi (K := K) rfl) (by rfl) T.n_isinstance (by decide +kernel) (by exact (pa_cons (by exact (pv 0)) (by exact (pa_cons (by exact (pe_bltn (v := .ty "list") (by rfl) T.n_list (by decide +kernel) rfl)) pa_nil (by rfl))) (by rfl))) (by decide) (by decide) (by rfl) (by rfl)))))))))))) (by exact (pss_one (by exact (ps_ret (by exact pe_bl))))) pss_nil))
      (by exact (pss_cons (by exact (ps_if (by exact (kt_ne (K := K) rfl hu64 (by exact (k_callB (kr_len (K := K) rfl) (by rfl) T.n_len (by decide +kernel) (by exact (pa_cons (by exact (pv 0)) pa_nil (by rfl))) (by decide) (by decide) (by rfl) (by rfl))) (by exact (k_callB (kr_len (K := K) rfl) (by rfl) T.n_len (by decide +kernel) (by exact (pa_cons (by exact (pv 1)) pa_nil (by rfl))) (by decide) (by decide) (by rfl) (by rfl))))) (by exact (pss_one (by exact (ps_ret (by exact pe_bl))))) pss_nil))
      (by exact (pss_cons (by exact (ps_for PassesOwn.never rfl (by exact (pi_range1 rfl T.n_range (by exact (pa_cons (by exact (k_callB (kr_len (K := K) rfl) (by rfl) T.n_len (by decide +kernel) (by exact (pa_cons (by exact (pv 1)) pa_nil (by rfl))) (by decide) (by decide) (by rfl) (by rfl))) pa_nil (by rfl))))) (by exact (pg_name (i := 2) sc_law_same.nd rfl (Or.inl rfl))) (by exact (pss_one (by exact (ps_if (by exact (pt_not (by exact (k_tr (K := K) rfl (by exact (pe_cal c_law_same (hr.mono (by first | decide | omega)) (by rfl) (by exact (pa_cons (by exact (k_sub (K := K) rfl hu1 (by exact (pv 0)) (by exact (pv 2)) (fun _ _ => rfl) (fun _ _ => rfl))) (by exact (pa_cons (by exact (k_sub (K := K) rfl hu1 (by exact (pv 1)) (by exact (pv 2)) (fun _ _ => rfl) (fun _ _ => rfl))) pa_nil (by rfl))) (by rfl))))) (fun _ => rfl))))) (by exact (pss_one (by exact (ps_ret (by exact pe_bl))))) pss_nil))))))
      (by exact (pss_one (by exact (ps_ret (by exact pe_bl))))))))))) pss_nil))
      (by exact (pss_cons (by exact (ps_if (by exact (PW.pt (by exact (by exact (pw_or (by exact (pt_cmpR or_isU (by exact (pv 1)) (by exact pe_non) (nomark _))) (by exact (pw_or1 (by exact (k_tr (K := K) rfl (by exact (k_callB (kr_isi (K := K) rfl) (by rfl) T.n_isinstance (by decide +kernel) (by exact (pa_cons (by exact (pv 1)) (by exact (pa_cons (by exact (pe_bltn (v := .ty "bool") (by rfl) T.n_bool (by decide +kernel) rfl)) pa_nil (by rfl))) (by rfl))) (by decide) (by decide) (by rfl) (by rfl))) (fun _ => rfl)))))))))) (by exact (pss_one (by exact (ps_ret (by exact (pe_and (by exact (k_eq (K := K) rfl hu64 (by exact (pe_cmpR or_isU (by exact (pv 0)) (by exact pe_non) (nomark _))) (by exact (pe_cmpR or_isU (by exact (pv 1)) (by exact pe_non) (nomark _))))) (pe_and (by exact (pe_or (by exact (pe_cmpR or_isU (by exact (pv 1)) (by exact pe_non) (nomark _))) (pe_one (by exact (k_callB (kr_isi (K := K) rfl) (by rfl) T.n_isinstance (by decide +kernel) (by exact (pa_cons (by exact (pv 0)) (by exact (pa_cons (by exact (pe_bltn (v := .ty "bool") (by rfl) T.n_bool (by decide +kernel) rfl)) pa_nil (by rfl))) (by rfl))) (by decide) (by decide) (by rfl) (by rfl)))))) (pe_one (by exact (k_eq (K := K) rfl hu64 (by exact (pv 0)) (by exact (pv 1)))))))))))) pss_nil))
      (by exact (pss_cons (by exact (ps_if (by exact (k_tr (K := K) rfl (by exact (k_callB (kr_isi (K := K) rfl) (by rfl) T.n_isinstance (by decide +kernel) (by exact (pa_cons (by exact (pv 1)) (by exact (pa_cons (by exact (pe_bltn (v := .ty "int") (by rfl) T.n_int (by decide +kernel) rfl)) pa_nil (by rfl))) (by rfl))) (by decide) (by decide) (by rfl) (by rfl))) (fun _ => rfl))) (by exact (pss_one (by exact (ps_ret (by exact (pe_and (by exact (k_callB (kr_isi (K := K) rfl) (by rfl) T.n_isinstance (by decide +kernel) (by exact (pa_cons (by exact (pv 0)) (by exact (pa_cons (by exact (pe_bltn (v := .ty "int") (by rfl) T.n_int (by decide +kernel) rfl)) pa_nil (by rfl))) (by rfl))) (by decide) (by decide) (by rfl) (by rfl))) (pe_and (by exact (pe_not (by exact (k_callB (kr_isi (K := K) rfl) (by rfl) T.n_isinstance (by decide +kernel) (by exact (pa_cons (by exact (pv 0)) (by exact (pa_cons (by exact (pe_bltn (v := .ty "bool") (by rfl) T.n_bool (by decide +kernel) rfl)) pa_nil (by rfl))) (by rfl))) (by decide) (by decide) (by rfl) (by rfl))))) (pe_one (by exact (k_eq (K := K) rfl hu64 (by exact (pv 0)) (by exact (pv 1)))))))))))) pss_nil))
      (by exact (pss_one (by exact (ps_ret (by exact (pe_and (by exact (k_callB (kr_isi (K := K) rfl) (by rfl) T.n_isinstance (by decide +kernel) (by exact (pa_cons (by exact (pv 0)) (by exact (pa_cons (by exact (pe_bltn (v := .ty "str") (by rfl) T.n_str (by decide +kernel) rfl)) pa_nil (by rfl))) (by rfl))) (by decide) (by decide) (by rfl) (by rfl))) (pe_one (by exact (k_eq (K := K) rfl hu64 (by exact (pv 0)) (by exact (pv 1))))))))))))))))), fun S R h => ?_⟩
  clear hu1 hu64 hu65 hr F T
  refine ⟨[], by decide, fun i hi => (by cases hi), ?_⟩
  rcases h with ⟨a, b, rfl, hR⟩ | ⟨a, b, rfl, hR⟩
  · refine st_imp (show slot0 _ [M.d (.int a), .d (.int b)] = [M.d (.int a), .d (.int b), .no] from rfl) ?_
    refine' st_seq (st_ifP (b := false || false) ?u1 ?u2 ?u3)
    case u1 => walk_at "ev"
    case u2 => intro hb; cases hb
    case u3 =>
    intro _
    refine' st_nil (st_seq (st_ifP ?u4 ?u5 ?u6))
    case u4 => walk_at "ev"
    case u5 => intro hb; cases hb
    case u6 =>
    intro _
    refine' st_nil (st_seq (st_ifP (b := true) ?u7 ?u8 ?u9))
    case u7 => walk_at "ev"
    case u9 => intro hb; cases hb
    case u8 =>
    intro _
    refine st_retP (d := .bl (true && (!false && decide (a = b)))) ?u10 ⟨by show 2 ≤ 3; decide, hR⟩
    case u10 => walk_at "ev"
  · refine st_imp (show slot0 _ [M.d (.bl a), .d (.bl b)] = [M.d (.bl a), .d (.bl b), .no] from rfl) ?_
    refine' st_seq (st_ifP (b := false || false) ?v1 ?v2 ?v3)
    case v1 => walk_at "ev"
    case v2 => intro hb; cases hb
    case v3 =>
    intro _
    refine' st_nil (st_seq (st_ifP (b := (D.bl b).isN || true) ?v4 ?v5 ?v6))
    case v4 => walk_at "ev"
    case v6 => intro hb; cases hb
    case v5 =>
    intro _
    refine st_retP (d := .bl (decide ((D.bl a).isN = (D.bl b).isN) && (((D.bl b).isN || true) && decide (a = b)))) ?v10 ⟨by show 2 ≤ 3; decide, ?v11⟩
    case v10 =>
      walk_at "ev"
    case v11 => exact hR
theorem evn_nin {S : List M} {ta tb : TE} {R : D → List M → Prop} (ha : EvN K ta S fun x S1 => EvN K tb S1 fun y S2 => ∃ d, V2P K (ninU K) x y d ∧ R d S2) : EvN K (orE (tOp (ninU K) ta tb) (tDNotIn ta tb)) S R := fun Pn pl G H0 H σ Rr Q q => .inl (evn_op ha Pn pl G H0 H σ Rr Q q)
abbrev s_law_plain : Stmt := top 16
theorem sc_law_plain : FnScope ["part", "own"] ["part"] (defScope s_law_plain) := ⟨rfl, rfl, rfl, by decide +kernel, rfl, by decide +kernel, by decide +kernel⟩
/-- ints and tuples of such, not deep -/
def Plain : Nat → D → Prop
  | 0, _ => False
  | n + 1, d => (∃ i, d = .int i) ∨ ∃ ds : List D, d = .tup ds ∧ ds.length ≤ 2000 ∧ ∀ x ∈ ds, Plain n x
def ct_plain (n : Nat) : Ct := fun S R => ∃ d, S = [.d d] ∧ Plain n d ∧ R (.bl true) [.no]
theorem c_law_plain (F : FunAt K mg "_law_plain" s_law_plain ["part"]) (T : Txt K mg CH) : ∀ n : Nat, Cal P w K mg base "_law_plain" n ["part"] (spD K (ct_plain n))
  | 0 => cal_no F fun S R ⟨d, _, h, _⟩ => h
  | n + 1 => by
    have c_law_plain := c_law_plain F T n
    refine okC F sc_law_plain (fun S R h => ?_) fun f cdv A outer s H E hr => ?_
    · obtain ⟨d, rfl, _⟩ := h; rfl
    have hu1 := hu1_of hr
    have hu64 := hu64_of hr
    have hu65 := hu65_of hr
    refine ⟨_, (by exact (pss_cons (by exact (ps_if (by exact (k_tr (K := K) rfl (by exact (k_callB (kr_isi (K := K) rfl) (by rfl) T.n_isinstance (by decide +kernel) (by exact (pa_cons (by exact (pv 0)) (by exact (pa_cons (by exact (pe_bltn (v := .ty "tuple") (by rfl) T.n_tuple (by decide +kernel) rfl)) pa_nil (by rfl))) (by rfl))) (by decide) (by decide) (by rfl) (by rfl))) (fun _ => rfl))) (by exact (pss_one (by exact (ps_ret (by exact (k_nin (K := K) rfl hu65 (by exact pe_bl) (by exact (pe_lc (own := [("own", 1)]) rfl sc_law_plain.nd (by exact (k_sq (K := K) rfl (by exact (pv 0)))) (blkOk_by (own := [("own", 1)]) (by kernel_rfl)) (by intros; exact (by exact (pg_name (i := 1) sc_law_plain.nd rfl (Or.inl rfl)))) (by intros; exact pts_nil) (by intros; exact (by exact (pe_cal c_law_plain (hr.mono (by first | decide | omega)) (by rfl) (by exact (pa_cons (by exact (pv 1)) pa_nil (by rfl)))))) (by intro _; rfl))) (by rfl))))))) pss_nil))
      (by exact (pss_one (by exact (ps_ret (by exact (pe_or (by exact (k_callB (kr_isi (K := K) rfl) (by rfl) T.n_isinstance (by decide +kernel) (by exact (pa_cons (by exact (pv 0)) (by exact (pa_cons (by exact (pe_bltn (v := .ty "str") (by rfl) T.n_str (by decide +kernel) rfl)) pa_nil (by rfl))) (by rfl))) (by decide) (by decide) (by rfl) (by rfl))) (pe_one (by exact (pe_and (by exact (k_callB (kr_isi (K := K) rfl) (by rfl) T.n_isinstance (by decide +kernel) (by exact (pa_cons (by exact (pv 0)) (by exact (pa_cons (by exact (pe_bltn (v := .ty "int") (by rfl) T.n_int (by decide +kernel) rfl)) pa_nil (by rfl))) (by rfl))) (by decide) (by decide) (by rfl) (by rfl))) (pe_one (by exact (pe_not (by exact (k_callB (kr_isi (K := K) rfl) (by rfl) T.n_isinstance (by decide +kernel) (by exact (pa_cons (by exact (pv 0)) (by exact (pa_cons (by exact (pe_bltn (v := .ty "bool") (by rfl) T.n_bool (by decide +kernel) rfl)) pa_nil (by rfl))) (by rfl))) (by decide) (by decide) (by rfl) (by rfl))))))))))))))))), fun S R h => ?_⟩
    clear hu1 hu64 hu65 hr F T
    obtain ⟨d, rfl, hd, hR⟩ := h
    refine ⟨[], by decide, fun i hi => (by cases hi), ?_⟩
    rcases hd with ⟨i, rfl⟩ | ⟨ds, rfl, hl, hds⟩
    · refine st_imp (show slot0 _ [M.d (.int i)] = [M.d (.int i), .no] from rfl) ?_
      refine' st_seq (st_ifP (b := false) ?u1 ?u2 ?u3)
      case u1 => walk_at "ev"
      case u2 => intro hb; cases hb
      case u3 =>
      intro _
      refine st_nil (st_retP (d := .bl (false || (true && !false))) ?u4 ⟨by show 1 ≤ 2; decide, hR⟩)
      case u4 => walk_at "ev"
    · refine st_imp (show slot0 _ [M.d (.tup ds)] = [M.d (.tup ds), .no] from rfl) ?_
      refine' st_seq (st_ifP (b := true) ?v1 ?v2 ?v3)
      case v1 => walk_at "ev"
      case v3 => intro hb; cases hb
      case v2 =>
      intro _
      refine st_ret (evn_nin (EvP.n (d := .bl false) ?v4 (EvO.n (evo_lc (f := id) (Rel := fun _ o => o = some (.bl true)) (φ := fun xs => xs = ds) ?v5 ?v6 ?v7 ?v8))))
      case v4 => walk_at "ev"
      case v5 =>
        intro i hi m hm
        simp at hi
        subst hi
        cases hm
        rfl
      case v6 =>
        refine WkP.n (ds := ds) ?v9 ⟨rfl, ds, by simp, by omega, rfl⟩
        case v9 => walk_at "wk"
      case v7 =>
        intro xs ex a ha
        subst ex
        refine ⟨_, gt_name, tpn_yes ⟨rfl, fun z => (by cases z), fun _ => evn_call (arn_p (d := a) ?v10 (arn_nil ⟨(by simp [arChk, arOne, slots, ndB, Ar.slot?, M.own, arV, List.filterMap_cons, rdB_o, rdB_b, rdB_d]), a, rfl, hds a ha, rfl, rfl⟩))⟩⟩
        case v10 => walk_at "ev"
      case v8 =>
        intro xs es ex hs
        have key : es = (List.replicate es.length true).map D.bl := by
          clear ex
          induction hs with
          | nil => rfl
          | skip _ h => cases h
          | take _ h ih =>
            cases h
            rw [List.length_append, List.length_singleton, List.replicate_succ', List.map_append, ← ih]
            rfl
        refine ⟨.bl (!decide (false ∈ List.replicate es.length true)), ?_, ?_⟩
        · rw [key]
          have := v_ninT (K := K) emb_bl (a := false) (xs := List.replicate es.length true) (by decide)
          simpa using this
        · have : decide (false ∈ List.replicate es.length true) = false := by
            refine decide_eq_false fun z => ?_
            have := List.eq_of_mem_replicate z
            cases this
          rw [this]
          exact ⟨by show 1 ≤ 2; decide, hR⟩
end
open PySem L2 Evl PyProof.Rows Dl HM

section
variable {P : Program} {w : World} {K : PySem.W.Frag} {mg : PySem.Str → Option Value} {base : Heap} {CH : Addr}
abbrev s_law_lots : Stmt := top 17
theorem sc_law_lots : FnScope ["things", "found", "thing", "own"] ["things"] (defScope s_law_lots) := ⟨rfl, rfl, rfl, by decide +kernel, rfl, by decide +kernel, by decide +kernel⟩
def ct_lots : Ct := fun S R => ∃ (xs : List Int), S = [.d (.lst (xs.map D.int))] ∧ xs.length ≤ 10 ∧ R (.lst ((lots xs).map fun s => .tup (s.map D.int))) [.no]
theorem c_law_lots (F : FunAt K mg "_law_lots" s_law_lots ["things"]) (T : Txt K mg CH) : Cal P w K mg base "_law_lots" 1 ["things"] (spD K ct_lots) := by
  refine okC F sc_law_lots (fun S R h => ?_) fun f cdv A outer s H E hr => ?_
  · obtain ⟨xs, rfl, _⟩ := h; rfl
  have hu1 := hu1_of hr
  have hu64 := hu64_of hr
  have hu65 := hu65_of hr
  refine ⟨_, (by exact (pss_cons (by exact (ps_set (i := 1) sc_law_lots.nd rfl (Or.inl rfl) (by exact (pe_lst (by exact (pa_cons (by exact (pe_tup pa_nil)) pa_nil (by rfl)))))))
      (by exact (pss_cons (by exact (ps_for PassesOwn.never rfl (by exact (k_sq (K := K) rfl (by exact (pv 0)))) (by exact (pg_name (i := 2) sc_law_lots.nd rfl (Or.inr rfl))) (by exact (pss_one (by exact (ps_set (i := 1) sc_law_lots.nd rfl (Or.inl rfl) (by exact (k_add (K := K) rfl (by exact (pv 1)) (by exact (pe_lc (own := [("own", 3)]) rfl sc_law_lots.nd (by exact (k_sq (K := K) rfl (by exact (pv 1)))) (blkOk_by (own := [("own", 3)]) (by kernel_rfl)) (by intros; exact (by exact (pg_name (i := 3) sc_law_lots.nd rfl (Or.inl rfl)))) (by intros; exact pts_nil) (by intros; exact (by exact (k_add (K := K) rfl (by exact (pv 3)) (by exact (pe_tup (by exact (pa_cons (by exact (pv 2)) pa_nil (by rfl)))))))) (by intro _; rfl)))))))))))
      (by exact (pss_one (by exact (ps_ret (by exact (pv 1)))))))))), fun S R h => ?_⟩
  clear hu1 hu64 hu65 hr F T
  obtain ⟨xs, rfl, hl, hR⟩ := h
  refine ⟨[], by decide, fun i hi => (by cases hi), ?_⟩
  refine st_imp (show slot0 _ [M.d (.lst (xs.map D.int))] = [M.d (.lst (xs.map D.int)), .no, .no, .no] from rfl) ?_
  refine st_seq (st_setF (d := .lst [.tup []]) (by decide) (by walk_at "ev") ?nx)
  case nx =>
  refine st_seq (st_forT (vs := [2]) (xs := xs) (f := D.int) (fun pre S' => ∃ a2 a3 : M, S' = [M.d (.lst (xs.map D.int)), .o (.lst ((lots pre).map fun s => .tup (s.map D.int))), a2, a3]) ?wk (by decide) ?h0 ?ht ?hd)
  case wk => walk_at "wk"
  case h0 => exact ⟨.no, .no, rfl⟩
  case hd =>
    rintro S' ⟨a2, a3, rfl⟩
    refine st_frz (i := 1) rfl rfl (by decide) (st_retP (d := .lst ((lots xs).map fun s => .tup (s.map D.int))) ?e1 ⟨by show 1 ≤ 4; decide, hR⟩)
    case e1 => walk_at "ev"
  case ht =>
    rintro pre a post S' e ⟨a2, a3, rfl⟩
    refine ⟨_, gt_name, ?_⟩
    have hpl : pre.length ≤ 9 := by
      have e2 := congrArg List.length e
      rw [List.length_append, List.length_cons] at e2
      omega
    have ll : (lots pre).length ≤ 512 := by
      rw [lots_len]
      exact Nat.pow_le_pow_right (by decide) hpl
    have ll2 : (lots pre).length ≤ 50000 := by omega
    refine st_setF (d := .lst ((lots (pre ++ [a])).map fun s => .tup (s.map D.int))) (by decide) ?e2 ⟨.d (.int a), a3, rfl⟩
    case e2 =>
      refine' EvF.is (evf_op (x := .lst ((lots pre).map fun s => .tup (s.map D.int))) (y := .lst ((lots pre).map fun s => .tup ((s ++ [a]).map D.int))) ?e3 ?e4 (v_cat ?e5)) ?e6
      case e3 => walk_at "ev"
      case e5 => simp only [List.length_map]; omega
      case e6 => rw [lots_snoc, List.map_append, List.map_map]; rfl
      case e4 =>
        refine' EvP.b (EvF.p (evf_lcA ?e7 ll2 ?e8))
        case e7 => walk_at "wk"
        case e8 =>
          intro s hs
          refine ⟨_, gt_name, ?_⟩
          have := lots_mem_len pre s hs
          refine' EvP.is (evp_op (x := .tup (s.map D.int)) (y := .tup [.int a]) ?e9 ?e10 (v_catt ?e11)) ?e12
          case e9 => walk_at "ev"
          case e10 => walk_at "ev"
          case e11 => simp only [List.length_map, List.length_singleton]; omega
          case e12 => simp
theorem evn_draw {i : Nat} {m : Int} {te : TE} {R : D → List M → Prop} {S : List M} (h0 : S[i]? = some (.e PoolD)) (ht : EvP K te S (.int m)) (hm : 0 < m) (hM : m ≤ 1000000) (hR : ∀ v : Int, 0 ≤ v → v < m → R (.int v) S) : EvN K (tCall (spD K ct_draw) [] E0 (tCons (tVar i) (tCons te tNil))) S R := by
  refine evn_call (arn_s h0 rfl (arn_p ht (arn_nil ⟨?_, m, ?_, hm, hM, fun v v0 v1 => ?_⟩)))
  · simp [arChk, arOne, slots, ndB, Ar.slot?, List.filterMap_cons, h0, M.own]
  · simp [arM, h0]
  · have e : putBack [Ar.s i, .d (.int m)] [M.e PoolD, .no] S = S := by
      show S.set i (M.e PoolD) = S
      apply List.ext_getElem?
      intro j
      by_cases q : i = j
      · subst q
        rw [List.getElem?_set_self (List.getElem?_eq_some_iff.mp h0).1, h0]
      · rw [List.getElem?_set_ne q]
    show R (.int v) (putBack [Ar.s i, .d (.int m)] [M.e PoolD, .no] S)
    rw [e]
    exact hR v v0 v1
abbrev s_law_changed : Stmt := top 18
theorem sc_law_changed : FnScope ["pool", "tree", "many", "kind", "at", "branch"] ["pool", "tree", "many"] (defScope s_law_changed) := ⟨rfl, rfl, rfl, by decide +kernel, rfl, by decide +kernel, by decide +kernel⟩
def ct_chg (n : Nat) : Ct := fun S R => ∃ (t : Tr) (many : Int), S = [.e PoolD, .d (trD t), .d (.int many)] ∧ t.depth < n ∧ t.depth ≤ 17 ∧ t.size ≤ 2000 ∧ 0 < many ∧ many ≤ 1000 ∧
  ∀ t' : Tr, t'.size ≤ 2 * t.size → t'.depth ≤ t.depth + 1 → R (trD t') [.e PoolD, .no, .no]
theorem c_law_changed (F : FunAt K mg "_law_changed" s_law_changed ["pool", "tree", "many"]) (T : Txt K mg CH) (c_law_draw : Cal P w K mg base "_law_draw" 1 ["pool", "size"] (spD K ct_draw)) : ∀ n : Nat, Cal P w K mg base "_law_changed" (n + 1) ["pool", "tree", "many"] (spD K (ct_chg n))
  | 0 => cal_no F fun S R ⟨t, _, _, h, _⟩ => by omega
  | n + 1 => by
    have c_law_changed := c_law_changed F T c_law_draw n
    refine okC F sc_law_changed (fun S R h => ?_) fun f cdv A outer s H E hr => ?_
    · obtain ⟨t, many, rfl, _⟩ := h; rfl
    have hu1 := hu1_of hr
    have hu64 := hu64_of hr
    have hu65 := hu65_of hr
    refine ⟨_, (by exact (pss_cons (by exact (ps_if (by exact (PW.pt (by exact (by exact (pw_or (by exact (kt_eq (K := K) rfl hu64 (by exact (pv 1)) (by exact (pe_tup pa_nil)))) (by exact (pw_or1 (by exact (kt_eq (K := K) rfl hu64 (by exact (pe_cal c_law_draw (hr.mono (by first | decide | omega)) (by rfl) (by exact (pa_cons (by exact (pv 0)) (by exact (pa_cons (by exact pe_int) pa_nil (by rfl))) (by rfl))))) (by exact pe_int)))))))))) (by exact (pss_cons (by exact (ps_set (i := 3) sc_law_changed.nd rfl (Or.inl rfl) (by exact (pe_cal c_law_draw (hr.mono (by first | decide | omega)) (by rfl) (by exact (pa_cons (by exact (pv 0)) (by exact (pa_cons (by exact pe_int) pa_nil (by rfl))) (by rfl)))))))
      (by exact (pss_cons (by exact (ps_if (by exact (kt_eq (K := K) rfl hu64 (by exact (pv 1)) (by exact (pe_tup pa_nil)))) (by exact (pss_one (by exact (ps_ret (by exact (pe_tup (by exact (pa_cons (by exact (pe_cal c_law_draw (hr.mono (by first | decide | omega)) (by rfl) (by exact (pa_cons (by exact (pv 0)) (by exact (pa_cons (by exact (pv 2)) pa_nil (by rfl))) (by rfl))))) (by exact (pa_cons (by exact (pe_tup pa_nil)) pa_nil (by rfl))) (by rfl))))))))) pss_nil))
      (by exact (pss_cons (by exact (ps_if (by exact (kt_eq (K := K) rfl hu64 (by exact (pv 3)) (by exact pe_int))) (by exact (pss_one (by exact (ps_ret (by exact (pe_tup (by exact (pa_cons (by exact (k_sub (K := K) rfl hu1 (by exact (pv 1)) (by exact pe_int) (fun _ _ => rfl) (fun _ _ => rfl))) (by exact (pa_cons (by exact (pe_revT (K := K) rfl (by exact (k_sub (K := K) rfl hu1 (by exact (pv 1)) (by exact pe_int) (fun _ _ => rfl) (fun _ _ => rfl))))) pa_nil (by rfl))) (by rfl))))))))) pss_nil))
      (by exact (pss_cons (by exact (ps_if (by exact (kt_eq (K := K) rfl hu64 (by exact (pv 3)) (by exact pe_int))) (by exact (pss_one (by exact (ps_ret (by exact (pe_tup (by exact (pa_cons (by exact (k_sub (K := K) rfl hu1 (by exact (pv 1)) (by exact pe_int) (fun _ _ => rfl) (fun _ _ => rfl))) (by exact (pa_cons (by exact (k_slice (K := K) rfl (by exact (k_sub (K := K) rfl hu1 (by exact (pv 1)) (by exact pe_int) (fun _ _ => rfl) (fun _ _ => rfl))) (by exact (po_some (by exact pe_int))) po_none)) pa_nil (by rfl))) (by rfl))))))))) pss_nil))
      (by exact (pss_cons (by exact (ps_if (by exact (kt_eq (K := K) rfl hu64 (by exact (pv 3)) (by exact pe_int))) (by exact (pss_one (by exact (ps_ret (by exact (pe_tup (by exact (pa_cons (by exact (pe_op op_modN (by exact (k_add (K := K) rfl (by exact (k_sub (K := K) rfl hu1 (by exact (pv 1)) (by exact pe_int) (fun _ _ => rfl) (fun _ _ => rfl))) (by exact pe_int))) (by exact (pv 2)))) (by exact (pa_cons (by exact (k_sub (K := K) rfl hu1 (by exact (pv 1)) (by exact pe_int) (fun _ _ => rfl) (fun _ _ => rfl))) pa_nil (by rfl))) (by rfl))))))))) pss_nil))
      (by exact (pss_one (by exact (ps_ret (by exact (pe_tup pa_nil)))))))))))))))) pss_nil))
      (by exact (pss_cons (by exact (ps_set (i := 4) sc_law_changed.nd rfl (Or.inl rfl) (by exact (pe_cal c_law_draw (hr.mono (by first | decide | omega)) (by rfl) (by exact (pa_cons (by exact (pv 0)) (by exact (pa_cons (by exact (k_add (K := K) rfl (by exact (k_callB (kr_len (K := K) rfl) (by rfl) T.n_len (by decide +kernel) (by exact (pa_cons (by exact (k_sub (K := K) rfl hu1 (by exact (pv 1)) (by exact pe_int) (fun _ _ => rfl) (fun _ _ => rfl))) pa_nil (by rfl))) (by decide) (by decide) (by rfl) (by rfl))) (by exact pe_int))) pa_nil (by rfl))) (by rfl)))))))
      (by exact (pss_cons (by exact (ps_if (by exact (kt_eq (K := K) rfl hu64 (by exact (pv 4)) (by exact (k_callB (kr_len (K := K) rfl) (by rfl) T.n_len (by decide +kernel) (by exact (pa_cons (by exact (k_sub (K := K) rfl hu1 (by exact (pv 1)) (by exact pe_int) (fun _ _ => rfl) (fun _ _ => rfl))) pa_nil (by rfl))) (by decide) (by decide) (by rfl) (by rfl))))) (by exact (pss_one (by exact (ps_ret (by exact (pe_tup (by exact (pa_cons (by exact (k_sub (K := K) rfl hu1 (by exact (pv 1)) (by exact pe_int) (fun _ _ => rfl) (fun _ _ => rfl))) (by exact (pa_cons (by exact (k_add (K := K) rfl (by exact (k_sub (K := K) rfl hu1 (by exact (pv 1)) (by exact pe_int) (fun _ _ => rfl) (fun _ _ => rfl))) (by exact (k_slice (K := K) rfl (by exact (k_sub (K := K) rfl hu1 (by exact (pv 1)) (by exact pe_int) (fun _ _ => rfl) (fun _ _ => rfl))) po_none (by exact (po_some (by exact pe_int))))))) pa_nil (by rfl))) (by rfl))))))))) pss_nil))
      (by exact (pss_cons (by exact (ps_set (i := 5) sc_law_changed.nd rfl (Or.inl rfl) (by exact (pe_tup (by exact (pa_cons (by exact (k_sub (K := K) rfl hu1 (by exact (k_sub (K := K) rfl hu1 (by exact (k_sub (K := K) rfl hu1 (by exact (pv 1)) (by exact pe_int) (fun _ _ => rfl) (fun _ _ => rfl))) (by exact (pv 4)) (fun _ _ => rfl) (fun _ _ => rfl))) (by exact pe_int) (fun _ _ => rfl) (fun _ _ => rfl))) (by exact (pa_cons (by exact (pe_cal c_law_changed (hr.mono (by first | decide | omega)) (by rfl) (by exact (pa_cons (by exact (pv 0)) (by exact (pa_cons (by exact (k_sub (K := K) rfl hu1 (by exact (k_sub (K := K) rfl hu1 (by exact (k_sub (K := K) rfl hu1 (by exact (pv 1)) (by exact pe_int) (fun _ _ => rfl) (fun _ _ => rfl))) (by exact (pv 4)) (fun _ _ => rfl) (fun _ _ => rfl))) (by exact pe_int) (fun _ _ => rfl) (fun _ _ => rfl))) (by exact (pa_cons (by exact (pv 2)) pa_nil (by rfl))) (by rfl))) (by rfl))))) pa_nil (by rfl))) (by rfl)))))))
      (by exact (pss_one (by exact (ps_ret (by exact (pe_tup (by exact (pa_cons (by exact (k_sub (K := K) rfl hu1 (by exact (pv 1)) (by exact pe_int) (fun _ _ => rfl) (fun _ _ => rfl))) (by exact (pa_cons (by exact (k_add (K := K) rfl (by exact (k_add (K := K) rfl (by exact (k_slice (K := K) rfl (by exact (k_sub (K := K) rfl hu1 (by exact (pv 1)) (by exact pe_int) (fun _ _ => rfl) (fun _ _ => rfl))) po_none (by exact (po_some (by exact (pv 4)))))) (by exact (pe_tup (by exact (pa_cons (by exact (pv 5)) pa_nil (by rfl))))))) (by exact (k_slice (K := K) rfl (by exact (k_sub (K := K) rfl hu1 (by exact (pv 1)) (by exact pe_int) (fun _ _ => rfl) (fun _ _ => rfl))) (by exact (po_some (by exact (k_add (K := K) rfl (by exact (pv 4)) (by exact pe_int))))) po_none)))) pa_nil (by rfl))) (by rfl))))))))))))))))), fun S R h => ?_⟩
    clear hu1 hu64 hu65 hr F T
    obtain ⟨t, many, rfl, hd, hd2, hs, hm0, hm1, hR⟩ := h
    refine ⟨[0], by decide, fun i hi m' hm' => by simp at hi; subst hi; cases hm'; rfl, ?_⟩
    refine st_imp (show slot0 _ [M.e PoolD, .d (trD t), .d (.int many)] = [M.e PoolD, .d (trD t), .d (.int many), .no, .no, .no] from rfl) ?_
    have fin : ∀ (t' : Tr) (a3 a4 a5 : M), t'.size ≤ 2 * t.size → t'.depth ≤ t.depth + 1 → 3 ≤ 6 ∧ R (trD t') (outM [0] 0 3 [M.e PoolD, .d (trD t), .d (.int many), a3, a4, a5]) := fun t' a3 a4 a5 h1 h2 => ⟨by decide, hR t' h1 h2⟩
    cases t with
    | leaf =>
      refine st_seq (st_if (tpn_or (TpP.n (b := true) ?u1 ⟨fun z => (Bool.noConfusion z), fun _ => ⟨fun _ => ?u2, fun z => Bool.noConfusion z⟩⟩)))
      case u1 =>
        rw [trD_leaf]
        refine' tpp_test (evp_op (x := .tup []) (y := .tup []) ?x1 ?x2 (v_eqb rfl rfl rfl rfl rfl))
        case x1 => walk_at "ev"
        case x2 => walk_at "ev"
      case u2 =>
      refine st_seq (st_set (by decide) (evn_draw (m := 4) rfl (by walk_at "ev") (by decide) (by decide) fun v v0 v1 => ?u3))
      case u3 =>
      refine' st_seq (st_ifP (b := true) ?u4 ?u5 ?u6)
      case u6 => intro z; cases z
      case u4 =>
        rw [trD_leaf]
        refine' tpp_test (evp_op (x := .tup []) (y := .tup []) ?x3 ?x4 (v_eqb rfl rfl rfl rfl rfl))
        case x3 => walk_at "ev"
        case x4 => walk_at "ev"
      case u5 =>
      intro _
      refine st_ret (evn_tup (apn_cons (evn_draw (m := many) rfl ?u7 hm0 (by omega) fun u u0 u1 => apn_cons (EvP.n (d := .tup []) ?u8 (apn_nil ⟨by simp, ?u9⟩)))))
      case u7 => walk_at "ev"
      case u8 => walk_at "ev"
      case u9 =>
        have := fin (.node u []) (.d (.int v)) .no .no (by simp [Tr.size, Tr.sizes]) (by simp [Tr.depth, Tr.depths])
        rw [trD_node] at this
        exact this
    | node a bs =>
      obtain ⟨q1, q2, q3⟩ := tr_ok (.node a bs)
      have q4 : SeqAt.shaped (trD (.node a bs)).py = true := by
        unfold SeqAt.shaped
        rw [q2, decide_eq_true (by omega)]; rfl
      have bl : bs.length + 1 ≤ 2001 := by
        have := sizes_len bs
        simp only [Tr.size] at hs
        omega
      rw [trD_node] at q1 q4
      have fin : ∀ (t' : Tr) (a3 a4 a5 : M), t'.size ≤ 2 * (Tr.node a bs).size → t'.depth ≤ (Tr.node a bs).depth + 1 → 3 ≤ 6 ∧ R (trD t') (outM [0] 0 3 [M.e PoolD, .d (.tup [.int a, .tup (bs.map brD)]), .d (.int many), a3, a4, a5]) := fun t' a3 a4 a5 h1 h2 => ⟨by decide, hR t' h1 h2⟩
      rw [trD_node]
      have v1' : atI [D.int a, D.tup (bs.map brD)] 1 = some (.tup (bs.map brD)) := rfl
      have v0' : atI [D.int a, D.tup (bs.map brD)] 0 = some (.int a) := rfl
      refine st_seq (st_if (tpn_or (TpP.n (b := false) ?u1 ⟨fun _ => tpn_test (evn_op (evn_draw (m := 3) rfl (by walk_at "ev") (by decide) (by decide) fun v w0 w1 => EvP.n (d := .int 0) (by walk_at "ev") ⟨_, v_eqi, _, rfl, fun hb => ?u2, fun hb => ?u3⟩)), fun z => Bool.noConfusion z⟩)))
      case u1 =>
        refine' tpp_test (evp_op (y := .tup []) ?x1 ?x2 (v_eqb q1 rfl q4 rfl rfl))
        case x1 => walk_at "ev"
        case x2 => walk_at "ev"
      case u2 =>
        refine st_seq (st_set (by decide) (evn_draw (m := 4) rfl (by walk_at "ev") (by decide) (by decide) fun k k0 k1 => ?u4))
        case u4 =>
        show StN K [0] _ [M.e PoolD, .d (.tup [.int a, .tup (bs.map brD)]), .d (.int many), .d (.int k), .no, .no] _
        refine' st_seq (st_ifP (b := false) ?u5 ?u6 ?u7)
        case u6 => intro z; cases z
        case u5 =>
          refine' tpp_test (evp_op (y := .tup []) ?x3 ?x4 (v_eqb q1 rfl q4 rfl rfl))
          case x3 => walk_at "ev"
          case x4 => walk_at "ev"
        case u7 =>
        intro _
        refine' st_nil (st_seq (st_ifP (b := decide (k = 0)) ?u8 ?u9 ?u10))
        case u8 => walk_at "ev"
        case u9 =>
          intro _
          refine st_retP (d := .tup [.int a, .tup (bs.map brD).reverse]) ?u11 ?u12
          case u11 =>
            refine' evp_tup (app_cons ?x5 (app_cons (evp_revt ?x6) app_nil)) (by simp)
            case x5 => walk_at "ev"
            case x6 => walk_at "ev"
          case u12 =>
            have := fin (.node a bs.reverse) (.d (.int k)) .no .no (by simp only [Tr.size, sizes_rev]; omega) (by simp only [Tr.depth, depths_rev]; omega)
            rw [trD_node, List.map_reverse] at this
            exact this
        case u10 =>
        intro _
        refine' st_nil (st_seq (st_ifP (b := decide (k = 1)) ?u13 ?u14 ?u15))
        case u13 => walk_at "ev"
        case u14 =>
          intro _
          refine st_retP (d := .tup [.int a, .tup (cutD (bs.map brD) (some 1) none)]) ?u16 ?u17
          case u16 =>
            refine' evp_tup (app_cons ?x7 (app_cons (evp_slt ?x8 (ptp_some ?x9) ptp_none) app_nil)) (by simp)
            case x7 => walk_at "ev"
            case x8 => walk_at "ev"
            case x9 => walk_at "ev"
          case u17 =>
            have e : cutD (bs.map brD) (some 1) none = (bs.drop 1).map brD := by
              rw [show (1 : Int) = ((1 : Nat) : Int) from rfl, cutD_from, List.map_drop]
            have d1 : Tr.sizes (bs.drop 1) ≤ Tr.sizes bs := by
              have := sizes_app (bs.take 1) (bs.drop 1)
              rw [List.take_append_drop] at this
              omega
            have d2 : Tr.depths (bs.drop 1) ≤ Tr.depths bs := by
              have := depths_app (bs.take 1) (bs.drop 1)
              rw [List.take_append_drop] at this
              omega
            have := fin (.node a (bs.drop 1)) (.d (.int k)) .no .no (by simp only [Tr.size]; omega) (by simp only [Tr.depth]; omega)
            rw [trD_node, ← e] at this
            exact this
        case u15 =>
        intro _
        have mn : many ≠ 0 := by omega
        refine' st_nil (st_seq (st_ifP (b := decide (k = 2)) ?u18 ?u19 ?u20))
        case u18 => walk_at "ev"
        case u19 =>
          intro _
          refine st_retP (d := .tup [.int ((a + 1).fmod many), .tup (bs.map brD)]) ?u21 ?u22
          case u21 => walk_at "ev"
          case u22 =>
            have := fin (.node ((a + 1).fmod many) bs) (.d (.int k)) .no .no (by simp only [Tr.size]; omega) (by simp only [Tr.depth]; omega)
            rw [trD_node] at this
            exact this
        case u20 =>
        intro _
        refine st_nil (st_retP (d := .tup []) (by walk_at "ev") ?u23)
        case u23 =>
          have := fin .leaf (.d (.int k)) .no .no (by simp only [Tr.size]; omega) (by simp only [Tr.depth]; omega)
          rw [trD_leaf] at this
          exact this
      case u3 =>
      refine st_nil (st_seq (st_set (by decide) (evn_draw (m := (((bs.map brD).length : Nat) : Int) + 1) rfl (by walk_at "ev") (by omega) (by rw [List.length_map]; omega) fun k k0 k1 => ?u24)))
      case u24 =>
      rw [List.length_map] at k1
      obtain ⟨j, rfl⟩ : ∃ j : Nat, k = (j : Int) := ⟨k.toNat, by omega⟩
      show StN K [0] _ [M.e PoolD, .d (.tup [.int a, .tup (bs.map brD)]), .d (.int many), .no, .d (.int j), .no] _
      refine' st_seq (st_ifP (b := decide ((j : Int) = (((bs.map brD).length : Nat) : Int))) ?u25 ?u26 ?u27)
      case u25 => walk_at "ev"
      case u26 =>
        intro _
        refine st_retP (d := .tup [.int a, .tup ((bs ++ bs.take 1).map brD)]) ?u28 ?u29
        case u28 =>
          refine' evp_tup (app_cons ?x10 (app_cons (EvP.is (evp_op (x := .tup (bs.map brD)) (y := .tup ((bs.take 1).map brD)) ?x11 ?x12 (v_catt ?x13)) ?x14) app_nil)) (by simp)
          case x10 => walk_at "ev"
          case x11 => walk_at "ev"
          case x13 => simp only [List.length_map, List.length_take]; omega
          case x14 => rw [List.map_append]
          case x12 =>
            refine' EvP.b (EvP.is (evp_slt (xs := bs.map brD) (lo := none) (hi := some ((1 : Nat) : Int)) ?x15 ptp_none (ptp_some ?x16)) ?x17)
            case x15 => walk_at "ev"
            case x16 => exact EvP.is (d := .int 1) (by walk_at "ev") rfl
            case x17 => rw [cutD_to, List.map_take]
        case u29 =>
          have d1 : Tr.sizes (bs.take 1) ≤ Tr.sizes bs := by
            have := sizes_app (bs.take 1) (bs.drop 1)
            rw [List.take_append_drop] at this
            omega
          have d2 : Tr.depths (bs.take 1) ≤ Tr.depths bs := by
            have := depths_app (bs.take 1) (bs.drop 1)
            rw [List.take_append_drop] at this
            omega
          have := fin (.node a (bs ++ bs.take 1)) .no (.d (.int j)) .no (by simp only [Tr.size, sizes_app]; omega) (by simp only [Tr.depth, depths_app]; omega)
          rw [trD_node] at this
          exact this
      case u27 =>
      intro hb
      have hj : j < bs.length := by
        have := of_decide_eq_false hb
        rw [List.length_map] at this
        omega
      obtain ⟨⟨th, x⟩, hth⟩ : ∃ p, bs[j]? = some p := ⟨bs[j], List.getElem?_eq_getElem hj⟩
      have a1 : atI (bs.map brD) (j : Int) = some (.tup [.int th, trD x]) := atI_nat (by rw [List.getElem?_map, hth]; rfl)
      have split : bs = bs.take j ++ (th, x) :: bs.drop (j + 1) := by
        have e := (List.take_append_drop j bs).symm
        rw [List.drop_eq_getElem_cons hj] at e
        have e2 : bs[j] = (th, x) := by
          have := List.getElem?_eq_getElem hj
          rw [hth] at this
          exact (Option.some.inj this).symm
        rw [e2] at e
        exact e
      have z1 : Tr.sizes bs = Tr.sizes (bs.take j) + (x.size + Tr.sizes (bs.drop (j + 1))) := by
        conv => lhs; rw [split]
        rw [sizes_app, Tr.sizes]
      have z2 : Tr.depths bs = max (Tr.depths (bs.take j)) (max x.depth (Tr.depths (bs.drop (j + 1)))) := by
        conv => lhs; rw [split]
        rw [depths_app, Tr.depths]
      simp only [Tr.size, Tr.depth] at hd hd2 hs fin
      have at1 : EvP K (orE (tOp (rIx K) (tVar 1) (tC (V.int 1))) (tDGet (tVar 1) (tC (V.int 1)))) [M.e PoolD, .d (.tup [.int a, .tup (bs.map brD)]), .d (.int many), .no, .d (.int j), .no] (.tup (bs.map brD)) := by walk_at "ev"
      have atj : EvP K (orE (tOp (rIx K) (orE (tOp (rIx K) (tVar 1) (tC (V.int 1))) (tDGet (tVar 1) (tC (V.int 1)))) (tVar 4)) (tDGet (orE (tOp (rIx K) (tVar 1) (tC (V.int 1))) (tDGet (tVar 1) (tC (V.int 1)))) (tVar 4))) [M.e PoolD, .d (.tup [.int a, .tup (bs.map brD)]), .d (.int many), .no, .d (.int j), .no] (.tup [.int th, trD x]) := evp_ix at1.b (by walk_at "ev") (v_ixt a1)
      refine st_nil (st_seq (st_set (by decide) (evn_tup (apn_cons (EvP.n (d := .int th) (evp_ix (y := .int 0) atj.b (by walk_at "ev") (v_ixt rfl)) (apn_cons (evn_call (arn_s rfl rfl (arn_p (d := trD x) (evp_ix (y := .int 1) atj.b (by walk_at "ev") (v_ixt rfl)) (arn_p (d := .int many) (by walk_at "ev") (arn_nil ⟨(by simp [arChk, arOne, slots, ndB, Ar.slot?, M.own, arV, List.filterMap_cons, rdB_o, rdB_b, rdB_d]), x, many, rfl, by omega, by omega, by omega, hm0, hm1, fun x' y1 y2 => apn_nil ⟨by simp, ?u30⟩⟩)))))))))))
      case u30 =>
      show StN K [0] _ [M.e PoolD, .d (.tup [.int a, .tup (bs.map brD)]), .d (.int many), .no, .d (.int j), .d (.tup [.int th, trD x'])] _
      refine st_retP (d := .tup [.int a, .tup ((bs.take j ++ (th, x') :: bs.drop (j + 1)).map brD)]) ?u31 ?u32
      case u31 =>
        refine' evp_tup (app_cons ?w1 (app_cons (EvP.is (evp_op (x := .tup ((bs.take j).map brD ++ [.tup [.int th, trD x']])) (y := .tup ((bs.drop (j + 1)).map brD)) (EvP.b (evp_op (x := .tup ((bs.take j).map brD)) (y := .tup [.tup [.int th, trD x']]) ?w2 ?w3 (v_catt ?w4))) ?w5 (v_catt ?w6)) ?w7) app_nil)) (by simp)
        case w1 => walk_at "ev"
        case w2 =>
          refine' EvP.b (EvP.is (evp_slt (xs := bs.map brD) (lo := none) (hi := some (j : Int)) ?w8 ptp_none (ptp_some ?w9)) ?w10)
          case w8 => walk_at "ev"
          case w9 => walk_at "ev"
          case w10 => rw [cutD_to, List.map_take]
        case w3 => walk_at "ev"
        case w4 => simp only [List.length_map, List.length_take, List.length_singleton]; omega
        case w5 =>
          refine' EvP.b (EvP.is (evp_slt (xs := bs.map brD) (lo := some ((j + 1 : Nat) : Int)) (hi := none) ?w11 (ptp_some ?w12) ptp_none) ?w13)
          case w11 => walk_at "ev"
          case w12 => exact EvP.is (d := .int ((j : Int) + 1)) (by walk_at "ev") (by simp)
          case w13 => rw [cutD_from, List.map_drop]
        case w6 => simp only [List.length_map, List.length_take, List.length_drop, List.length_append, List.length_singleton]; omega
        case w7 => simp [brD]
      case u32 =>
        have := fin (.node a (bs.take j ++ (th, x') :: bs.drop (j + 1))) .no (.d (.int j)) (.d (.tup [.int th, trD x'])) (by simp only [Tr.size]; rw [sizes_app]; simp only [Tr.sizes]; omega) (by simp only [Tr.depth]; rw [depths_app]; simp only [Tr.depths]; omega)
        rw [trD_node] at this
        exact this
end
open PySem L2 Evl PyProof.Rows Dl HM

section
variable {P : Program} {w : World} {K : PySem.W.Frag} {mg : PySem.Str → Option Value} {base : Heap} {CH : Addr}
theorem sel_pairs {xs : List Int} {ds : List D} (h : Sel (fun (a : Int) o => ∃ p : Int, (1 ≤ p ∧ p ≤ 3) ∧ o = some (Dl.pairD (a, p))) xs ds) : ∃ ps : List (Int × Int), ds = ps.map Dl.pairD ∧ ps.map (·.1) = xs ∧ ∀ p ∈ ps, 1 ≤ p.2 ∧ p.2 ≤ 3 := by
  induction h with
  | nil => exact ⟨[], rfl, rfl, fun p hp => by cases hp⟩
  | skip _ h => obtain ⟨p, _, e⟩ := h; cases e
  | take _ h ih =>
    obtain ⟨p, hp, e⟩ := h
    cases e
    obtain ⟨ps, rfl, rfl, h3⟩ := ih
    rename_i a _
    refine ⟨ps ++ [(a, p)], by rw [List.map_append]; rfl, by rw [List.map_append]; rfl, fun q hq => ?_⟩
    rcases List.mem_append.mp hq with z | z
    · exact h3 q z
    · rw [List.mem_singleton] at z; rw [z]; exact hp
theorem sel_sub {xs : List Int} {ds : List D} (h : Sel (fun (a : Int) o => o = none ∨ o = some (D.int a)) xs ds) : ∃ ys : List Int, ds = ys.map D.int ∧ List.Sublist ys xs := by
  induction h with
  | nil => exact ⟨[], rfl, List.Sublist.refl _⟩
  | skip _ _ ih => obtain ⟨ys, rfl, h⟩ := ih; exact ⟨ys, rfl, h.trans (List.sublist_append_left _ _)⟩
  | take _ h ih =>
    obtain ⟨ys, rfl, h2⟩ := ih
    rcases h with z | z
    · cases z
    · cases z
      rename_i a _
      exact ⟨ys ++ [a], by rw [List.map_append]; rfl, h2.append (List.Sublist.refl _)⟩
theorem pr_of : ∀ ps : List (Int × Int), (ps.map (·.1)).Nodup → (∀ p ∈ ps, 1 ≤ p.2 ∧ p.2 ≤ 3) → ∃ pr : Int → Int, ps.map (·.2) = (ps.map (·.1)).map pr ∧ ∀ t ∈ ps.map (·.1), 1 ≤ pr t ∧ pr t ≤ 3
  | [], _, _ => ⟨fun _ => 1, rfl, fun t ht => by cases ht⟩
  | p :: ps, nd, h => by
    rw [List.map_cons, List.nodup_cons] at nd
    obtain ⟨pr, h1, h2⟩ := pr_of ps nd.2 fun q hq => h q (List.mem_cons_of_mem _ hq)
    refine ⟨fun t => if t = p.1 then p.2 else pr t, ?_, fun t ht => ?_⟩
    · simp only [List.map_cons, if_true, if_pos]
      rw [h1]
      congr 1
      apply List.map_congr_left
      intro t ht
      rw [if_neg fun z : t = p.1 => nd.1 (by rw [← z]; exact ht)]
    · by_cases e : t = p.1
      · simp only [if_pos e]; exact h p (by simp)
      · simp only [if_neg e]
        rw [List.map_cons] at ht
        exact h2 t ((List.mem_cons.mp ht).resolve_left e)
theorem st_seqA {Pn : List Nat} {S : List M} {P : Post} {t u : TS} {α : Type} (S0 : α → List M) (φ : α → Prop) (rest : ∀ x, φ x → StN K Pn u (S0 x) P) (h : (∀ x, φ x → StN K Pn u (S0 x) P) → StN K Pn t S { P with nx := fun S' => StN K Pn u S' P }) : StN K Pn (tSeq t u) S P := st_seq (h rest)
structure SetsOk (xs : List Int) (ss : List (List Int)) : Prop where
  ok : ∀ s ∈ ss, s ≠ [] ∧ List.Sublist s xs
  len : ss.length ≤ 6
theorem SetsOk.inn {xs : List Int} {ss : List (List Int)} {pr : Int → Int} (h : SetsOk xs ss) (srt : xs.Pairwise (· < ·)) (len : xs.length ≤ 6) (pos : ∀ t ∈ xs, 1 ≤ pr t) : In ss xs pr where
  ndU := srt.imp fun h => Int.ne_of_lt h
  pos := pos
  sub := fun s hs t ht => (h.ok s hs).2.subset ht
  srt := fun s hs => srt.sublist (h.ok s hs).2
  ne := fun s hs => (h.ok s hs).1
  ulen := by omega
  slen := by have := h.len; omega
/-- it hits every set -/
def okB (ss : List (List Int)) (own : List Int) : Bool := decide (((ss.filter fun one => decide ((one.filter fun t => decide (t ∈ own)) = [])).map fun _ => (1 : Int)) = [])
theorem okB_iff {ss : List (List Int)} {own : List Int} : okB ss own = true ↔ Hits ss own := by
  unfold okB
  rw [decide_eq_true_iff, List.map_eq_nil_iff, List.filter_eq_nil_iff]
  constructor
  · intro h s hs
    have := h s hs
    rw [decide_eq_true_iff, List.filter_eq_nil_iff] at this
    apply Classical.byContradiction
    intro z
    exact this fun t ht q => z ⟨t, ht, of_decide_eq_true q⟩
  · intro h s hs z
    rw [decide_eq_true_iff, List.filter_eq_nil_iff] at z
    obtain ⟨t, h1, h2⟩ := h s hs
    exact z t h1 (decide_eq_true h2)
theorem sel_filter {α : Type} {f : α → D} {p : α → Bool} {xs : List α} {ds : List D} (h : Sel (fun a o => o = if p a = true then some (f a) else none) xs ds) : ds = (xs.filter p).map f := by
  induction h with
  | nil => rfl
  | skip _ h ih =>
    rename_i a _
    cases q : p a with
    | true => rw [q] at h; cases h
    | false => rw [List.filter_append, ih]; simp [q]
  | take _ h ih =>
    rename_i a _ _
    cases q : p a with
    | false => rw [q] at h; cases h
    | true =>
      rw [q, if_pos rfl] at h
      cases h
      rw [List.filter_append, ih]
      simp [q]
/-- strictly sorted and inside: a sublist -/
theorem sub_of : ∀ {xs b : List Int}, xs.Pairwise (· < ·) → b.Pairwise (· < ·) → (∀ t ∈ b, t ∈ xs) → List.Sublist b xs
  | [], b, _, _, h => by
    cases b with
    | nil => exact List.Sublist.refl _
    | cons t b => have := h t (by simp); cases this
  | x :: xs, [], _, _, _ => List.nil_sublist _
  | x :: xs, t :: b, hx, hb, h => by
    obtain ⟨x1, x2⟩ := List.pairwise_cons.mp hx
    obtain ⟨b1, b2⟩ := List.pairwise_cons.mp hb
    rcases List.mem_cons.mp (h t (by simp)) with e | e
    · subst e
      refine List.Sublist.cons₂ _ (sub_of x2 b2 fun u hu => ?_)
      rcases List.mem_cons.mp (h u (List.mem_cons_of_mem _ hu)) with z | z
      · have := b1 u hu; omega
      · exact z
    · refine List.Sublist.cons _ (sub_of x2 hb fun u hu => ?_)
      rcases List.mem_cons.mp (h u hu) with z | z
      · have := x1 t e
        rcases List.mem_cons.mp hu with y | y
        · omega
        · have := b1 u y; omega
      · exact z
theorem feas_congr {a b : List (List Int)} {U T : List Int} (h : ∀ s, s ∈ b ↔ s ∈ a) (F : Feas a U T) : Feas b U T := ⟨F.nd, F.sub, fun s hs => F.hits s ((h s).mp hs)⟩
theorem In.congr {a b : List (List Int)} {U : List Int} {pr : Int → Int} (h : ∀ s, s ∈ b ↔ s ∈ a) (l : b.length ≤ 100) (i : In a U pr) : In b U pr := ⟨i.ndU, i.pos, fun s hs => i.sub s ((h s).mp hs), fun s hs => i.srt s ((h s).mp hs), fun s hs => i.ne s ((h s).mp hs), i.ulen, l⟩
theorem cost_le {pr : Int → Int} : ∀ {c : List Int}, (∀ t ∈ c, pr t ≤ 3) → costOf pr c ≤ 3 * c.length
  | [], _ => by simp [costOf]
  | t :: c, h => by
    have h1 := cost_le (pr := pr) (c := c) fun u hu => h u (List.mem_cons_of_mem _ hu)
    have h2 := h t (by simp)
    rw [cost_cons, List.length_cons]
    omega
mutual
theorem plain_tr : ∀ (t : Tr) (n : Nat), 3 * t.depth + 1 ≤ n → t.size ≤ 1024 → Plain n (trD t)
  | .leaf, n, h, hs => by
    obtain ⟨m, rfl⟩ : ∃ m, n = m + 1 := ⟨n - 1, by omega⟩
    unfold trD Plain
    exact .inr ⟨[], rfl, by decide, fun x hx => by cases hx⟩
  | .node a bs, n, h, hs => by
    unfold Tr.depth at h
    unfold Tr.size at hs
    obtain ⟨m, rfl⟩ : ∃ m, n = m + 3 := ⟨n - 3, by omega⟩
    unfold trD Plain
    refine .inr ⟨_, rfl, by simp, fun x hx => ?_⟩
    rcases List.mem_cons.mp hx with rfl | hx
    · unfold Plain
      exact .inl ⟨a, rfl⟩
    · rw [List.mem_singleton] at hx
      subst hx
      unfold Plain
      obtain ⟨h1, h2⟩ := plain_trs bs m (by omega) (by omega)
      exact .inr ⟨_, rfl, by omega, h2⟩
theorem plain_trs : ∀ (bs : List (Int × Tr)) (n : Nat), 3 * Tr.depths bs + 1 ≤ n → Tr.sizes bs ≤ 1024 → (trDs bs).length ≤ Tr.sizes bs ∧ ∀ x ∈ trDs bs, Plain (n + 1) x
  | [], n, h, hs => by
    unfold trDs
    exact ⟨Nat.zero_le _, fun x hx => by cases hx⟩
  | (t, b) :: bs, n, h, hs => by
    unfold Tr.depths at h
    unfold Tr.sizes at hs
    obtain ⟨h1, h2⟩ := plain_trs bs n (by omega) (by omega)
    have hp := size_pos b
    have h3 := plain_tr b n (by omega) (by omega)
    unfold trDs Tr.sizes
    refine ⟨by rw [List.length_cons]; omega, fun x hx => ?_⟩
    rcases List.mem_cons.mp hx with rfl | hx
    · unfold Plain
      refine .inr ⟨_, rfl, by simp, fun y hy => ?_⟩
      rcases List.mem_cons.mp hy with rfl | hy
      · obtain ⟨m, rfl⟩ : ∃ m, n = m + 1 := ⟨n - 1, by omega⟩
        unfold Plain
        exact .inl ⟨t, rfl⟩
      · rw [List.mem_singleton] at hy
        subst hy
        exact h3
    · exact h2 x hx
end
/-- what the law knows of the least price -/
structure Bst (ss : List (List Int)) (xs : List Int) (pr : Int → Int) (v : Int) : Prop where
  inn : In ss xs pr
  ex : ∃ T, Feas ss xs T
  best : ∀ (u : Int) (b : List Int), b.Pairwise (· < ·) → Feas ss xs b → u = costOf pr b → (∀ T, Feas ss xs T → u ≤ costOf pr T) → u = v
theorem evn_cheapI {ss : List (List Int)} {xs : List Int} {pr : Int → Int} {v : Int} (B : Bst ss xs pr v) {te : TE} {S : List M} {R : D → List M → Prop} (s3 : S[3]? = some (.d (priD xs pr))) (hte : EvN K te S fun d S1 => ∃ ys, d = setsD ys ∧ S1 = S ∧ (∀ s, s ∈ ys ↔ s ∈ ss) ∧ ys.length ≤ 100) (r : R (.int v) S) :
    EvN K (orE (tOp (rIx K) (tCall (spD K (ct_cheap CH)) [] E0 (tCons te (tCons (tVar 3) tNil))) (tC (.int 1))) (tDGet (tCall (spD K (ct_cheap CH)) [] E0 (tCons te (tCons (tVar 3) tNil))) (tC (.int 1)))) S R := by
  refine evn_ix (evn_op (evn_call (arn_d fun Pn pl G H0 H σ Rs' Q q => hte Pn pl G H0 H σ Rs' Q fun d S1 v' H0' H' ⟨ys, e1, e2, hm, hl⟩ g R' p => q d S1 v' H0' H' ?_ g R' p)))
  subst e1 e2
  refine arn_b (x := priD xs pr) s3 rfl (arn_nil ⟨by simp [arChk, arOne, slots, ndB, Ar.slot?, List.filterMap_cons, s3, M.rdB], ys, xs, pr, .d (setsD ys), by simp [arM, s3, M.toB], rfl, B.inn.congr hm hl, ?_, fun b' v' k1 k2 k3 k4 => ?_⟩)
  · obtain ⟨T, F⟩ := B.ex
    exact ⟨T, feas_congr hm F⟩
  have := B.best v' b' k1 (feas_congr (fun s => (hm s).symm) k2) k3 fun T F => k4 T (feas_congr hm F)
  subst this
  exact EvP.n (d := .int 1) evp_int ⟨.int v', v_ixt rfl, r⟩
theorem evn_right {ss : List (List Int)} {xs : List Int} {pr : Int → Int} {low : Int} {t : Tr} {S : List M} {R : D → List M → Prop} {te1 te2 te3 te4 : TE} (h1 : EvP K te1 S (setsD ss)) (h2 : EvP K te2 S (priD xs pr)) (h3 : EvP K te3 S (.int low)) (h4 : EvP K te4 S (trD t))
    (inn : In ss xs pr) (sz : t.size ≤ 4000) (dp : t.depth ≤ 18) (r : R (.bl (chk ss pr low t [] [])) S) : EvN K (tCall (spD K ct_right) [] E0 (tCons te1 (tCons te2 (tCons te3 (tCons te4 tNil))))) S R :=
  evn_call (arn_p h1 (arn_p h2 (arn_p h3 (arn_p h4 (arn_nil ⟨(by simp [arChk, arOne, slots, ndB, Ar.slot?, M.own, arV, List.filterMap_cons, rdB_o, rdB_b, rdB_d]), ss, xs, pr, low, t, .d (setsD ss), .d (priD xs pr), .d (.int low), rfl, rfl, rfl, rfl, inn, sz, dp, r⟩)))))
/-- both judges, compared -/
theorem evn_both {ss : List (List Int)} {xs : List Int} {pr : Int → Int} {low : Int} {t : Tr} {S : List M} {R : D → List M → Prop} {te1 te2 te3 te4 : TE} (h1 : EvP K te1 S (setsD ss)) (h2 : EvP K te2 S (priD xs pr)) (h3 : EvP K te3 S (.int low)) (h4 : EvP K te4 S (trD t))
    (inn : In ss xs pr) (sz : t.size ≤ 4000) (dp : t.depth ≤ 18) (r : R (.bl true) S) :
    EvN K (tCall (spD K ct_same) [] E0 (tCons (tCall (spD K ct_right) [] E0 (tCons te1 (tCons te2 (tCons te3 (tCons te4 tNil))))) (tCons (tCall (spD K ct_right) [] E0 (tCons te1 (tCons te2 (tCons te3 (tCons te4 tNil))))) tNil))) S R :=
  evn_call (arn_d (evn_right h1 h2 h3 h4 inn sz dp (arn_d (evn_right h1 h2 h3 h4 inn sz dp (arn_nil ⟨(by simp [arChk, arOne, slots, ndB, Ar.slot?, M.own, arV, List.filterMap_cons, rdB_o, rdB_b, rdB_d]), .inr ⟨_, _, rfl, by rw [decide_eq_true rfl]; exact r⟩⟩)))))
abbrev s_law : Stmt := top 19
theorem sc_law : FnScope ["script", "pool", "things", "prices", "thing", "sets", "k", "own", "good", "one", "price", "chosen", "told", "low", "tree", "other", "turn"] ["script"] (defScope s_law) := ⟨rfl, rfl, rfl, by decide +kernel, rfl, by decide +kernel, by decide +kernel⟩
def ct_law : Ct := fun S R => ∃ ns : List Int, S = [.q ns] ∧ R (.bl true) [.no]
theorem b_law {f : Addr} {fd : FuncData} (F : Fun K "law" "law" s_law f fd) (T : Txt K mg CH)
    (c_law_pool : Cal P w K mg base "_law_pool" 1 ["script", "budget"] (spPool K))
    (c_law_draw : Cal P w K mg base "_law_draw" 1 ["pool", "size"] (spD K ct_draw))
    (c_law_same : Cal P w K mg base "_law_same" 1 ["actual", "due"] (spD K ct_same))
    (c_law_hits : Cal P w K mg base "_law_hits" 1 ["sets", "prices", "low", "tree"] (spD K ct_right))
    (c_law_plain : Cal P w K mg base "_law_plain" 40 ["part"] (spD K (ct_plain 40)))
    (c_law_lots : Cal P w K mg base "_law_lots" 1 ["things"] (spD K ct_lots))
    (c_law_changed : Cal P w K mg base "_law_changed" 19 ["pool", "tree", "many"] (spD K (ct_chg 18)))
    (c_cheapest_hit : Cal P w K mg base "cheapest_hit" 14 ["sets", "prices"] (spD K (ct_cheap CH)))
    (c_hit_tree : Cal P w K mg base "hit_tree" 14 ["sets", "prices", "low"] (spD K ct_htree))
    (c_tree_right : Cal P w K mg base "tree_right" 1 ["sets", "prices", "low", "tree"] (spD K ct_right)) :
    FnOk P w K mg base CX0 41 f fd ["script"] (spD K ct_law) := by
  refine okD F sc_law (fun S R h => ?_) fun cdv A outer s H E hr => ?_
  · obtain ⟨ns, rfl, _⟩ := h; rfl
  have hu1 := hu1_of hr
  have hu64 := hu64_of hr
  have hu65 := hu65_of hr
  refine ⟨_, (by exact (pss_cons (by exact (ps_set (i := 1) sc_law.nd rfl (Or.inr rfl) (by exact (pe_cal c_law_pool (hr.mono (by first | decide | omega)) (by rfl) (by exact (pa_cons (by exact (pv 0)) (by exact (pa_cons (by exact pe_int) pa_nil (by rfl))) (by rfl)))))))
      (by exact (pss_cons (by exact (ps_set (i := 2) sc_law.nd rfl (Or.inl rfl) (by exact (k_slice (K := K) rfl (by exact (pe_listRg rfl (by rfl) T.n_list (prg_2 (by rfl) T.n_range (by exact pe_int) (by exact pe_int)))) po_none (by exact (po_some (by exact (k_add (K := K) rfl (by exact pe_int) (by exact (pe_cal c_law_draw (hr.mono (by first | decide | omega)) (by rfl) (by exact (pa_cons (by exact (pv 1)) (by exact (pa_cons (by exact pe_int) pa_nil (by rfl))) (by rfl)))))))))))))
      (by exact (pss_cons (by exact (ps_set (i := 3) sc_law.nd rfl (Or.inr rfl) (by exact (k_callTy (kr_dictP (K := K) rfl rfl) (by rfl) T.n_dict (by decide +kernel) (by exact (pa_cons (by exact (pe_lc (own := [("thing", 4)]) rfl sc_law.nd (by exact (k_sq (K := K) rfl (by exact (pv 2)))) (blkOk_by (own := [("thing", 4)]) (by kernel_rfl)) (by intros; exact (by exact (pg_name (i := 4) sc_law.nd rfl (Or.inl rfl)))) (by intros; exact pts_nil) (by intros; exact (by exact (pe_tup (by exact (pa_cons (by exact (pv 4)) (by exact (pa_cons (by exact (k_add (K := K) rfl (by exact pe_int) (by exact (pe_cal c_law_draw (hr.mono (by first | decide | omega)) (by rfl) (by exact (pa_cons (by exact (pv 1)) (by exact (pa_cons (by exact pe_int) pa_nil (by rfl))) (by rfl))))))) pa_nil (by rfl))) (by rfl)))))) (by intro _; rfl))) pa_nil (by rfl))) (by decide) (by decide) (by rfl) (by rfl)))))
      (by exact (pss_cons (by exact (ps_set (i := 5) sc_law.nd rfl (Or.inr rfl) (by exact (pe_lst pa_nil))))
      (by exact (pss_cons (by exact (ps_for PassesOwn.never rfl (by exact (pi_range1 rfl T.n_range (by exact (pa_cons (by exact (pe_cal c_law_draw (hr.mono (by first | decide | omega)) (by rfl) (by exact (pa_cons (by exact (pv 1)) (by exact (pa_cons (by exact pe_int) pa_nil (by rfl))) (by rfl))))) pa_nil (by rfl))))) (by exact (pg_name (i := 6) sc_law.nd rfl (Or.inl rfl))) (by exact (pss_cons (by exact (ps_set (i := 7) sc_law.nd rfl (Or.inl rfl) (by exact (k_tupleOf (K := K) rfl (by rfl) T.n_tuple (by exact (pe_lc (own := [("thing", 4)]) rfl sc_law.nd (by exact (k_sq (K := K) rfl (by exact (pv 2)))) (blkOk_by (own := [("thing", 4)]) (by kernel_rfl)) (by intros; exact (by exact (pg_name (i := 4) sc_law.nd rfl (Or.inl rfl)))) (by intros; exact pts_one (by exact (kt_eq (K := K) rfl hu64 (by exact (pe_cal c_law_draw (hr.mono (by first | decide | omega)) (by rfl) (by exact (pa_cons (by exact (pv 1)) (by exact (pa_cons (by exact pe_int) pa_nil (by rfl))) (by rfl))))) (by exact pe_int)))) (by intros; exact (by exact (pv 4))) (by intro _; rfl))) (by rfl)))))
      (by exact (pss_one (by exact (ps_if (by exact (kt_ne (K := K) rfl hu64 (by exact (pv 7)) (by exact (pe_tup pa_nil)))) (by exact (pss_one (by exact (ps_expr (by exact (pe_bm PySem.F.plainAttrs_list PySem.F.slot_list_append PySem.F.type_list_append mt_append (by exact (pv 5)) (by exact (pa_cons (by exact (pv 7)) pa_nil (by rfl))))))))) pss_nil))))))))
      (by exact (pss_cons (by exact (ps_if (by exact (kt_ne (K := K) rfl hu64 (by exact (pv 5)) (by exact (pe_lst pa_nil)))) (by exact (pss_cons (by exact (ps_expr (by exact (pe_bm PySem.F.plainAttrs_list PySem.F.slot_list_append PySem.F.type_list_append mt_append (by exact (pv 5)) (by exact (pa_cons (by exact (k_sub (K := K) rfl hu1 (by exact (pv 5)) (by exact (pe_cal c_law_draw (hr.mono (by first | decide | omega)) (by rfl) (by exact (pa_cons (by exact (pv 1)) (by exact (pa_cons (by exact (k_callB (kr_len (K := K) rfl) (by rfl) T.n_len (by decide +kernel) (by exact (pa_cons (by exact (pv 5)) pa_nil (by rfl))) (by decide) (by decide) (by rfl) (by rfl))) pa_nil (by rfl))) (by rfl))))) (fun _ _ => rfl) (fun _ _ => rfl))) pa_nil (by rfl)))))))
      (by exact (pss_one (by exact (ps_expr (by exact (pe_bm PySem.F.plainAttrs_list PySem.F.slot_list_append PySem.F.type_list_append mt_append (by exact (pv 5)) (by exact (pa_cons (by exact (k_slice (K := K) rfl (by exact (k_sub (K := K) rfl hu1 (by exact (pv 5)) (by exact pe_int) (fun _ _ => rfl) (fun _ _ => rfl))) po_none (by exact (po_some (by exact (k_add (K := K) rfl (by exact pe_int) (by exact (pe_cal c_law_draw (hr.mono (by first | decide | omega)) (by rfl) (by exact (pa_cons (by exact (pv 1)) (by exact (pa_cons (by exact (k_callB (kr_len (K := K) rfl) (by rfl) T.n_len (by decide +kernel) (by exact (pa_cons (by exact (k_sub (K := K) rfl hu1 (by exact (pv 5)) (by exact pe_int) (fun _ _ => rfl) (fun _ _ => rfl))) pa_nil (by rfl))) (by decide) (by decide) (by rfl) (by rfl))) pa_nil (by rfl))) (by rfl))))))))))) pa_nil (by rfl))))))))))) pss_nil))
      (by exact (pss_cons (by exact (ps_setLc (i := 8) (own := [("own", 7)]) rfl sc_law.nd rfl rfl (sw_true rfl rfl rfl (by decide +kernel)) (by exact (k_sq (K := K) rfl (by exact (pe_cal c_law_lots (hr.mono (by first | decide | omega)) (by rfl) (by exact (pa_cons (by exact (pv 2)) pa_nil (by rfl))))))) (blkOk_by (own := [("own", 7)]) (by kernel_rfl)) (by intros; exact (by exact (pg_name (i := 7) sc_law.nd rfl (Or.inr rfl)))) (by intros; exact pts_one (by exact (kt_eq (K := K) rfl hu64 (by exact (pe_lc (own := [("one", 9)]) rfl sc_law.nd (by exact (k_sq (K := K) rfl (by exact (pv 5)))) (blkOk_by (own := [("one", 9)]) (by kernel_rfl)) (by intros; exact (by exact (pg_name (i := 9) sc_law.nd rfl (Or.inl rfl)))) (by intros; exact pts_one (by exact (kt_eq (K := K) rfl hu64 (by exact (pe_lc (own := [("thing", 4)]) rfl sc_law.nd (by exact (k_sq (K := K) rfl (by exact (pv 9)))) (blkOk_by (own := [("thing", 4)]) (by kernel_rfl)) (by intros; exact (by exact (pg_name (i := 4) sc_law.nd rfl (Or.inl rfl)))) (by intros; exact pts_one (by exact (kt_in (K := K) rfl hu65 (by exact (pv 4)) (by exact (pv 7)) (by rfl)))) (by intros; exact (by exact (pv 4))) (by intro _; rfl))) (by exact (pe_lst pa_nil))))) (by intros; exact (by exact pe_int)) (by intro _; rfl))) (by exact (pe_lst pa_nil))))) (by intros; exact (by exact (pv 7)))))
      (by exact (pss_cons (by exact (ps_set (i := 10) sc_law.nd rfl (Or.inl rfl) (by exact (k_callB (kr_min (K := K) rfl rfl) (by rfl) T.n_min (by decide +kernel) (by exact (pa_cons (by exact (pe_lc (own := [("own", 7)]) rfl sc_law.nd (by exact (k_sq (K := K) rfl (by exact (pv 8)))) (blkOk_by (own := [("own", 7)]) (by kernel_rfl)) (by intros; exact (by exact (pg_name (i := 7) sc_law.nd rfl (Or.inl rfl)))) (by intros; exact pts_nil) (by intros; exact (by exact (k_callB (kr_sum (K := K) rfl rfl) (by rfl) T.n_sum (by decide +kernel) (by exact (pa_cons (by exact (pe_lc (own := [("thing", 4)]) rfl sc_law.nd (by exact (k_sq (K := K) rfl (by exact (pv 7)))) (blkOk_by (own := [("thing", 4)]) (by kernel_rfl)) (by intros; exact (by exact (pg_name (i := 4) sc_law.nd rfl (Or.inl rfl)))) (by intros; exact pts_nil) (by intros; exact (by exact (k_sub (K := K) rfl hu1 (by exact (pv 3)) (by exact (pv 4)) (fun _ _ => rfl) (fun _ _ => rfl)))) (by intro _; rfl))) pa_nil (by rfl))) (by decide) (by decide) (by rfl) (by rfl)))) (by intro _; rfl))) pa_nil (by rfl))) (by decide) (by decide) (by rfl) (by rfl)))))
      (by exact (pss_cons (by exact (ps_asg (by exact (pe_cal c_cheapest_hit (hr.mono (by first | decide | omega)) (by rfl) (by exact (pa_cons (by exact (pv 5)) (by exact (pa_cons (by exact (pv 3)) pa_nil (by rfl))) (by rfl))))) (by exact (k_tup (K := K) (n := 2) rfl rfl (by exact (pgs_cons (by exact (pg_name (i := 11) sc_law.nd rfl (Or.inl rfl))) (by exact (pgs_cons (by exact (pg_name (i := 12) sc_law.nd rfl (Or.inl rfl))) pgs_nil)))) (by rfl) (by rfl)))))
      (by exact (pss_cons (by exact (ps_if (by exact (PW.pt (by exact (by exact (pw_or (by exact (pt_not (by exact (k_tr (K := K) rfl (by exact (pe_cal c_law_same (hr.mono (by first | decide | omega)) (by rfl) (by exact (pa_cons (by exact (pv 12)) (by exact (pa_cons (by exact (pv 10)) pa_nil (by rfl))) (by rfl))))) (fun _ => rfl))))) (by exact (pw_or (by exact (kt_ne (K := K) rfl hu64 (by exact (k_callTy (kr_list (K := K) rfl) (by rfl) T.n_list (by decide +kernel) (by exact (pa_cons (by exact (pv 11)) pa_nil (by rfl))) (by decide) (by decide) (by rfl) (by rfl))) (by exact (k_callB (kr_sortSet (w := w) rfl rfl) (by rfl) T.n_sorted (by decide +kernel) (by exact (pa_cons (by exact (k_callTy (kr_setT (K := K) (w := w) rfl rfl rfl) (by rfl) T.n_set (by decide +kernel) (by exact (pa_cons (by exact (pv 11)) pa_nil (by rfl))) (by decide) (by decide) (by rfl) (by rfl))) pa_nil (by rfl))) (by decide) (by decide) (by rfl) (by rfl))))) (by exact (pw_or (by exact (kt_nin (K := K) rfl hu65 (by exact (pv 11)) (by exact (pv 8)) (by rfl))) (by exact (pw_or1 (by exact (kt_ne (K := K) rfl hu64 (by exact (k_callB (kr_sum (K := K) rfl rfl) (by rfl) T.n_sum (by decide +kernel) (by exact (pa_cons (by exact (pe_lc (own := [("thing", 4)]) rfl sc_law.nd (by exact (k_sq (K := K) rfl (by exact (pv 11)))) (blkOk_by (own := [("thing", 4)]) (by kernel_rfl)) (by intros; exact (by exact (pg_name (i := 4) sc_law.nd rfl (Or.inl rfl)))) (by intros; exact pts_nil) (by intros; exact (by exact (k_sub (K := K) rfl hu1 (by exact (pv 3)) (by exact (pv 4)) (fun _ _ => rfl) (fun _ _ => rfl)))) (by intro _; rfl))) pa_nil (by rfl))) (by decide) (by decide) (by rfl) (by rfl))) (by exact (pv 10))))))))))))))) (by exact (pss_one (by exact (ps_ret (by exact pe_bl))))) pss_nil))
      (by exact (pss_cons (by exact (ps_if (by exact (PW.pt (by exact (by exact (pw_or (by exact (kt_ne (K := K) rfl hu64 (by exact (k_sub (K := K) rfl hu1 (by exact (pe_cal c_cheapest_hit (hr.mono (by first | decide | omega)) (by rfl) (by exact (pa_cons (by exact (k_revL (K := K) rfl (by exact (pv 5)))) (by exact (pa_cons (by exact (pv 3)) pa_nil (by rfl))) (by rfl))))) (by exact pe_int) (fun _ _ => rfl) (fun _ _ => rfl))) (by exact (pv 10)))) (by exact (pw_or1 (by exact (kt_ne (K := K) rfl hu64 (by exact (k_sub (K := K) rfl hu1 (by exact (pe_cal c_cheapest_hit (hr.mono (by first | decide | omega)) (by rfl) (by exact (pa_cons (by exact (k_callB (kr_sortU (K := K) (P := P) (w := w) rfl rfl rfl rfl) (by rfl) T.n_sorted (by decide +kernel) (by exact (pa_cons (by exact (k_callTy (kr_setOfT (K := K) (P := P) (w := w) rfl rfl rfl rfl hu64) (by rfl) T.n_set (by decide +kernel) (by exact (pa_cons (by exact (pv 5)) pa_nil (by rfl))) (by decide) (by decide) (by rfl) (by rfl))) pa_nil (by rfl))) (by decide) (by decide) (by rfl) (by rfl))) (by exact (pa_cons (by exact (pv 3)) pa_nil (by rfl))) (by rfl))))) (by exact pe_int) (fun _ _ => rfl) (fun _ _ => rfl))) (by exact (pv 10))))))))))) (by exact (pss_one (by exact (ps_ret (by exact pe_bl))))) pss_nil))
      (by exact (pss_cons (by exact (ps_for PassesOwn.never rfl (by exact (pi_range1 rfl T.n_range (by exact (pa_cons (by exact (k_add (K := K) rfl (by exact (pv 10)) (by exact pe_int))) pa_nil (by rfl))))) (by exact (pg_name (i := 13) sc_law.nd rfl (Or.inl rfl))) (by exact (pss_cons (by exact (ps_set (i := 14) sc_law.nd rfl (Or.inl rfl) (by exact (pe_cal c_hit_tree (hr.mono (by first | decide | omega)) (by rfl) (by exact (pa_cons (by exact (pv 5)) (by exact (pa_cons (by exact (pv 3)) (by exact (pa_cons (by exact (pv 13)) pa_nil (by rfl))) (by rfl))) (by rfl)))))))
      (by exact (pss_cons (by exact (ps_if (by exact (PW.pt (by exact (by exact (pw_or (by exact (pt_cmpR or_notU (by exact (pe_cal c_law_hits (hr.mono (by first | decide | omega)) (by rfl) (by exact (pa_cons (by exact (pv 5)) (by exact (pa_cons (by exact (pv 3)) (by exact (pa_cons (by exact (pv 13)) (by exact (pa_cons (by exact (pv 14)) pa_nil (by rfl))) (by rfl))) (by rfl))) (by rfl))))) (by exact pe_bl) (nomark _))) (by exact (pw_or (by exact (pt_cmpR or_notU (by exact (pe_cal c_tree_right (hr.mono (by first | decide | omega)) (by rfl) (by exact (pa_cons (by exact (pv 5)) (by exact (pa_cons (by exact (pv 3)) (by exact (pa_cons (by exact (pv 13)) (by exact (pa_cons (by exact (pv 14)) pa_nil (by rfl))) (by rfl))) (by rfl))) (by rfl))))) (by exact pe_bl) (nomark _))) (by exact (pw_or1 (by exact (pt_not (by exact (k_tr (K := K) rfl (by exact (pe_cal c_law_plain (hr.mono (by first | decide | omega)) (by rfl) (by exact (pa_cons (by exact (pv 14)) pa_nil (by rfl))))) (fun _ => rfl)))))))))))))) (by exact (pss_one (by exact (ps_ret (by exact pe_bl))))) pss_nil))
      (by exact (pss_cons (by exact (ps_for PassesOwn.never rfl (by exact (k_sq (K := K) rfl (by exact (pe_tup (by exact (pa_cons (by exact (k_add (K := K) rfl (by exact (pv 10)) (by exact pe_int))) (by exact (pa_cons (by exact (k_add (K := K) rfl (by exact (pv 13)) (by exact pe_int))) (by exact (pa_cons (by exact pe_int) (by exact (pa_cons (by exact (pv 10)) pa_nil (by rfl))) (by rfl))) (by rfl))) (by rfl))))))) (by exact (pg_name (i := 15) sc_law.nd rfl (Or.inl rfl))) (by exact (pss_one (by exact (ps_if (by exact (pt_not (by exact (k_tr (K := K) rfl (by exact (pe_cal c_law_same (hr.mono (by first | decide | omega)) (by rfl) (by exact (pa_cons (by exact (pe_cal c_tree_right (hr.mono (by first | decide | omega)) (by rfl) (by exact (pa_cons (by exact (pv 5)) (by exact (pa_cons (by exact (pv 3)) (by exact (pa_cons (by exact (pv 15)) (by exact (pa_cons (by exact (pv 14)) pa_nil (by rfl))) (by rfl))) (by rfl))) (by rfl))))) (by exact (pa_cons (by exact (pe_cal c_law_hits (hr.mono (by first | decide | omega)) (by rfl) (by exact (pa_cons (by exact (pv 5)) (by exact (pa_cons (by exact (pv 3)) (by exact (pa_cons (by exact (pv 15)) (by exact (pa_cons (by exact (pv 14)) pa_nil (by rfl))) (by rfl))) (by rfl))) (by rfl))))) pa_nil (by rfl))) (by rfl))))) (fun _ => rfl))))) (by exact (pss_one (by exact (ps_ret (by exact pe_bl))))) pss_nil))))))
      (by exact (pss_cons (by exact (ps_for PassesOwn.never rfl (by exact (pi_range1 rfl T.n_range (by exact (pa_cons (by exact pe_int) pa_nil (by rfl))))) (by exact (pg_name (i := 16) sc_law.nd rfl (Or.inl rfl))) (by exact (pss_one (by exact (ps_if (by exact (kt_ne (K := K) rfl hu64 (by exact (pv 5)) (by exact (pe_lst pa_nil)))) (by exact (pss_cons (by exact (ps_set (i := 7) sc_law.nd rfl (Or.inl rfl) (by exact (pe_cal c_law_changed (hr.mono (by first | decide | omega)) (by rfl) (by exact (pa_cons (by exact (pv 1)) (by exact (pa_cons (by exact (pv 14)) (by exact (pa_cons (by exact (k_callB (kr_len (K := K) rfl) (by rfl) T.n_len (by decide +kernel) (by exact (pa_cons (by exact (pv 5)) pa_nil (by rfl))) (by decide) (by decide) (by rfl) (by rfl))) pa_nil (by rfl))) (by rfl))) (by rfl)))))))
      (by exact (pss_one (by exact (ps_if (by exact (pt_not (by exact (k_tr (K := K) rfl (by exact (pe_cal c_law_same (hr.mono (by first | decide | omega)) (by rfl) (by exact (pa_cons (by exact (pe_cal c_tree_right (hr.mono (by first | decide | omega)) (by rfl) (by exact (pa_cons (by exact (pv 5)) (by exact (pa_cons (by exact (pv 3)) (by exact (pa_cons (by exact (pv 13)) (by exact (pa_cons (by exact (pv 7)) pa_nil (by rfl))) (by rfl))) (by rfl))) (by rfl))))) (by exact (pa_cons (by exact (pe_cal c_law_hits (hr.mono (by first | decide | omega)) (by rfl) (by exact (pa_cons (by exact (pv 5)) (by exact (pa_cons (by exact (pv 3)) (by exact (pa_cons (by exact (pv 13)) (by exact (pa_cons (by exact (pv 7)) pa_nil (by rfl))) (by rfl))) (by rfl))) (by rfl))))) pa_nil (by rfl))) (by rfl))))) (fun _ => rfl))))) (by exact (pss_one (by exact (ps_ret (by exact pe_bl))))) pss_nil)))))) pss_nil))))))
      (by exact (pss_one (by exact (ps_if (by exact (pt_not (by exact (k_tr (K := K) rfl (by exact (pe_cal c_law_same (hr.mono (by first | decide | omega)) (by rfl) (by exact (pa_cons (by exact (pe_cal c_tree_right (hr.mono (by first | decide | omega)) (by rfl) (by exact (pa_cons (by exact (k_revL (K := K) rfl (by exact (pv 5)))) (by exact (pa_cons (by exact (pv 3)) (by exact (pa_cons (by exact (pv 13)) (by exact (pa_cons (by exact (pv 14)) pa_nil (by rfl))) (by rfl))) (by rfl))) (by rfl))))) (by exact (pa_cons (by exact (pe_cal c_law_hits (hr.mono (by first | decide | omega)) (by rfl) (by exact (pa_cons (by exact (k_revL (K := K) rfl (by exact (pv 5)))) (by exact (pa_cons (by exact (pv 3)) (by exact (pa_cons (by exact (pv 13)) (by exact (pa_cons (by exact (pv 14)) pa_nil (by rfl))) (by rfl))) (by rfl))) (by rfl))))) pa_nil (by rfl))) (by rfl))))) (fun _ => rfl))))) (by exact (pss_one (by exact (ps_ret (by exact pe_bl))))) pss_nil))))))))))))))
      (by exact (pss_one (by exact (ps_ret (by exact pe_bl))))))))))))))))))))))))))))), fun S R h => ?_⟩
  clear hu1 hu64 hu65 hr F T
  obtain ⟨ns, rfl, hR⟩ := h
  refine ⟨[], by decide, fun i hi => (by cases hi), ?_⟩
  refine st_imp (show slot0 _ [M.q ns] = [M.q ns, .no, .no, .no, .no, .no, .no, .no, .no, .no, .no, .no, .no, .no, .no, .no, .no] from rfl) ?_
  refine st_seq (st_seto (by decide) (evo_pool rfl ?_))
  show StN K [] _ [M.q ns, .o (.lst [.lst (ns.map D.int), .int 0, .int 0, .int 1, .int 0, .int 0]), .no, .no, .no, .no, .no, .no, .no, .no, .no, .no, .no, .no, .no, .no, .no] _
  refine st_close (i := 1) (φ := PoolD) rfl ⟨ns, 0, 0, 1, 0, rfl, by decide⟩ ?_
  show StN K [] _ [M.q ns, .e PoolD, .no, .no, .no, .no, .no, .no, .no, .no, .no, .no, .no, .no, .no, .no, .no] _
  refine st_seq (st_seto (by decide) (evo_sll_hi (xs := ([4, 5, 6, 7, 8, 9] : List Int).map D.int) ?a1 (evn_op (EvP.n (d := .int 1) (by walk_at "ev") (evn_draw (i := 1) (m := 6) rfl (by walk_at "ev") (by decide) (by decide) fun v v0 v1 => ⟨.int (1 + v), v_add, _, rfl, ?a2⟩)))))
  case a1 =>
    refine' EvF.p (EvF.is (evf_listRg (a := 4) (b := 10) ?a3 ?a4 (RgOk.of_le (by decide) (by decide) (by decide) (by decide))) ?a5)
    case a3 => walk_at "ev"
    case a4 => walk_at "ev"
    case a5 => rfl
  case a2 =>
  obtain ⟨k, rfl⟩ : ∃ k : Nat, v = (k : Int) := ⟨v.toNat, by omega⟩
  rw [show (1 : Int) + (k : Int) = ((1 + k : Nat) : Int) by simp, cutD_to, ← List.map_take]
  obtain ⟨U, eU⟩ : ∃ U, ([4, 5, 6, 7, 8, 9] : List Int).take (1 + k) = U := ⟨_, rfl⟩
  have Usub : List.Sublist U [4, 5, 6, 7, 8, 9] := by rw [← eU]; exact List.take_sublist _ _
  have Usrt : U.Pairwise (· < ·) := (show ([4, 5, 6, 7, 8, 9] : List Int).Pairwise (· < ·) by decide).sublist Usub
  have Und : U.Nodup := Usrt.imp fun h => Int.ne_of_lt h
  have Ulen : U.length ≤ 6 := Usub.length_le
  rw [eU]
  show StN K [] _ [M.q ns, .e PoolD, .o (.lst (U.map D.int)), .no, .no, .no, .no, .no, .no, .no, .no, .no, .no, .no, .no, .no, .no] _
  refine st_frz (i := 2) rfl rfl (by decide) ?_
  show StN K [] _ [M.q ns, .e PoolD, .d (.lst (U.map D.int)), .no, .no, .no, .no, .no, .no, .no, .no, .no, .no, .no, .no, .no, .no] _
  refine st_seq (st_seto (by decide) (evo_dictP (EvO.n (evo_lc (vs := [4]) (f := D.int) (Rel := fun (a : Int) o => ∃ p : Int, (1 ≤ p ∧ p ≤ 3) ∧ o = some (Dl.pairD (a, p))) (φ := fun xs => xs = U) ?b1 ?b2 ?b3 ?b4))))
  case b1 =>
    intro i hi m hm
    simp at hi
    subst hi
    cases hm
    rfl
  case b2 =>
    refine WkP.n (ds := U.map D.int) ?b5 ⟨rfl, U, rfl, by omega, rfl⟩
    case b5 => walk_at "wk"
  case b3 =>
    intro xs ex a ha
    refine ⟨_, gt_name, tpn_yes ⟨rfl, fun z => (by cases z), fun _ => ?b6⟩⟩
    case b6 =>
    refine evn_tup (apn_cons (EvP.n (d := .int a) (by walk_at "ev") (apn_cons (evn_op (EvP.n (d := .int 1) (by walk_at "ev") (evn_draw (i := 1) (m := 3) rfl (by walk_at "ev") (by decide) (by decide) fun v v0 v1 => ⟨.int (1 + v), v_add, apn_nil ⟨by simp, rfl, 1 + v, ⟨by omega, by omega⟩, rfl⟩⟩))))))
  case b4 =>
  intro xs ds ex hs
  subst ex
  obtain ⟨ps, rfl, e2, e3⟩ := sel_pairs hs
  refine ⟨ps, rfl, by rw [e2]; exact Und, ?_⟩
  obtain ⟨pr, p1, p2⟩ := pr_of ps (by rw [e2]; exact Und) e3
  rw [e2] at p1 p2
  have eD : D.dk (ps.map fun p => Sum.inl p.1) (ps.map fun p => .int p.2) = priD xs pr := by
    unfold priD
    rw [show (ps.map fun p => (Sum.inl p.1 : Key)) = (ps.map (·.1)).map Sum.inl by rw [List.map_map]; rfl, e2]
    rw [show (ps.map fun p => D.int p.2) = (ps.map (·.2)).map D.int by rw [List.map_map]; rfl, p1, List.map_map]
    rfl
  rw [eD]
  clear eD hs e2 e3 p1
  show StN K [] _ [M.q ns, .e PoolD, .d (.lst (xs.map D.int)), .o (priD xs pr), .no, .no, .no, .no, .no, .no, .no, .no, .no, .no, .no, .no, .no] _
  refine st_frz (i := 3) rfl rfl (by decide) ?_
  show StN K [] _ [M.q ns, .e PoolD, .d (.lst (xs.map D.int)), .d (priD xs pr), .no, .no, .no, .no, .no, .no, .no, .no, .no, .no, .no, .no, .no] _
  refine st_seq (st_setF (d := .lst []) (by decide) (by walk_at "ev") ?c1)
  case c1 =>
  refine st_seq (st_forN (vs := [6]) (fun ds i S' => ds.length ≤ 4 ∧ ∃ (ss : List (List Int)) (a4 a6 a7 : M), S' = [M.q ns, .e PoolD, .d (.lst (xs.map D.int)), .d (priD xs pr), a4, .o (setsD ss), a6, a7, .no, .no, .no, .no, .no, .no, .no, .no, .no] ∧
    a4.own = false ∧ a6.own = false ∧ a7.own = false ∧ (∀ s ∈ ss, s ≠ [] ∧ List.Sublist s xs) ∧ ss.length ≤ i) ?c2 (by decide) ?c3 ?c4)
  case c2 =>
    refine wkn_rng1 (evn_draw (i := 1) (m := 5) rfl (by walk_at "ev") (by decide) (by decide) fun v v0 v1 => ⟨v.toNat, by show D.int v = _; congr 1; omega, by omega, by simp [rgD]; omega, [], .no, .no, .no, rfl, rfl, rfl, rfl, fun s hs => (by cases hs), Nat.le_refl _⟩)
  case c3 =>
    rintro ds i d S' hd ⟨dl, ss, a4, a6, a7, rfl, o4, o6, o7, hss, hsl⟩
    have hi : i < ds.length := (List.getElem?_eq_some_iff.mp hd).1
    refine ⟨_, gt_name, ?_⟩
    refine st_seq (st_set (by decide) (evn_then (EvO.n (evo_lc (vs := [4]) (f := D.int) (Rel := fun (a : Int) o => o = none ∨ o = some (D.int a)) (φ := fun ys => ys = xs) ?c5 ?c6 ?c7 ?c8))))
    case c5 =>
      intro j hj m hm
      simp at hj
      subst hj
      cases hm
      exact o4
    case c6 =>
      refine WkP.n (ds := xs.map D.int) ?c9 ⟨rfl, xs, rfl, by omega, rfl⟩
      case c9 => walk_at "wk"
    case c7 =>
      intro ys ey a ha
      refine ⟨_, gt_name, tpn_test (evn_op (evn_draw (i := 1) (m := 2) rfl (by walk_at "ev") (by decide) (by decide) fun v v0 v1 => EvP.n (d := .int 0) (by walk_at "ev") ⟨_, v_eqi, _, rfl, rfl, fun _ => .inl rfl, fun _ => EvP.n (d := .int a) (by walk_at "ev") ⟨rfl, .inr rfl⟩⟩))⟩
    case c8 =>
    intro ys ds' ey hsel
    subst ey
    obtain ⟨s, rfl, hsub⟩ := sel_sub hsel
    refine ⟨_, v_tupl, ?c10⟩
    case c10 =>
    show StN K [] _ [M.q ns, .e PoolD, .d (.lst (ys.map D.int)), .d (priD ys pr), a4, .o (setsD ss), .d d, .d (.tup (s.map D.int)), .no, .no, .no, .no, .no, .no, .no, .no, .no] _
    refine' st_ifP (b := !decide (s = [])) ?c11 ?c12 ?c13
    case c11 =>
      refine' tpp_test (evp_op (x := .tup (s.map D.int)) (y := .tup (([] : List Int).map D.int)) ?c14 ?c15 (v_neT (emb_tup emb_int) (by decide)))
      case c14 => walk_at "ev"
      case c15 => exact EvP.b (EvP.is (d := .tup []) (by walk_at "ev") rfl)
    case c13 =>
      intro _
      exact st_nil ⟨dl, ss, a4, .d d, .d (.tup (s.map D.int)), rfl, o4, rfl, rfl, hss, by omega⟩
    case c12 =>
      intro hb
      have hne : s ≠ [] := by
        rw [Bool.not_eq_true'] at hb
        exact of_decide_eq_false hb
      refine st_expr (evn_append rfl (EvP.n (d := .tup (s.map D.int)) (by walk_at "ev") ⟨_, rfl, by rw [List.length_map]; omega, dl, ss ++ [s], a4, .d d, .d (.tup (s.map D.int)), ?_, o4, rfl, rfl, fun t ht => ?_, by rw [List.length_append, List.length_singleton]; omega⟩))
      · unfold setsD
        rw [List.map_append]
        rfl
      · rcases List.mem_append.mp ht with z | z
        · exact hss t z
        · rw [List.mem_singleton] at z; rw [z]; exact ⟨hne, hsub⟩
  case c4 =>
  rintro ds S' ⟨dl, ss, a4, a6, a7, rfl, o4, o6, o7, hss, hsl⟩
  have hs4 : ss.length ≤ 4 := by omega
  clear dl hsl
  refine st_seqA (α := List (List Int) × M × M × M) (fun z => [M.q ns, .e PoolD, .d (.lst (xs.map D.int)), .d (priD xs pr), z.2.1, .o (setsD z.1), z.2.2.1, z.2.2.2, .no, .no, .no, .no, .no, .no, .no, .no, .no]) (fun z => z.2.1.own = false ∧ z.2.2.1.own = false ∧ z.2.2.2.own = false ∧ SetsOk xs z.1) ?rest ?first
  case first =>
    intro rest
    refine' st_ifP (b := !decide (ss = [])) ?d1 ?d2 ?d3
    case d1 =>
      refine' tpp_test (evp_op (x := .lst (ss.map fun s => .tup (s.map D.int))) (y := .lst (([] : List (List Int)).map fun s => .tup (s.map D.int))) ?d4 ?d5 (v_neT (emb_lst (emb_tup emb_int)) (by decide)))
      case d4 => walk_at "ev"
      case d5 => exact EvP.b (EvF.p (evf_lst app_nil (by decide)))
    case d3 =>
      intro _
      exact st_nil (rest (ss, a4, a6, a7) ⟨o4, o6, o7, hss, by show ss.length ≤ 6; omega⟩)
    case d2 =>
      intro hb
      have hne : ss ≠ [] := by
        rw [Bool.not_eq_true'] at hb
        exact of_decide_eq_false hb
      have hpos : 0 < ss.length := List.length_pos_iff.mpr hne
      obtain ⟨s0, hs0⟩ : ∃ s, ss[0]? = some s := ⟨ss[0], List.getElem?_eq_getElem hpos⟩
      have hs0' := List.mem_of_getElem? hs0
      have at0 : atI (ss.map fun s => D.tup (s.map D.int)) ((0 : Nat) : Int) = some (.tup (s0.map D.int)) := atI_nat (by rw [List.getElem?_map, hs0]; rfl)
      refine st_seq (st_expr (evn_append (ys := ss.map fun s => .tup (s.map D.int)) rfl (evn_ix (evn_opv (m := .o (setsD ss)) (z := setsD ss) rfl rfl (evn_draw (i := 1) (m := ((ss.map fun s => D.tup (s.map D.int)).length : Nat)) rfl ?d6 (by rw [List.length_map]; omega) (by rw [List.length_map]; omega) fun v v0 v1 => ?d7)))))
      case d6 => exact evp_cb (x := .lst (ss.map fun s => .tup (s.map D.int))) (evb_varo rfl) v_lenl
      case d7 =>
      rw [List.length_map] at v1
      obtain ⟨j, rfl⟩ : ∃ j : Nat, v = (j : Int) := ⟨v.toNat, by omega⟩
      have hj : j < ss.length := by omega
      obtain ⟨sj, hsj⟩ : ∃ s, ss[j]? = some s := ⟨ss[j], List.getElem?_eq_getElem hj⟩
      have atj : atI (ss.map fun s => D.tup (s.map D.int)) (j : Int) = some (.tup (sj.map D.int)) := atI_nat (by rw [List.getElem?_map, hsj]; rfl)
      refine ⟨setsD ss, .o (setsD ss), .tup (sj.map D.int), rfl, rfl, v_ixl atj, ss.map fun s => .tup (s.map D.int), rfl, by rw [List.length_map]; omega, ?d8⟩
      case d8 =>
      have eS : D.lst ((ss.map fun s => D.tup (s.map D.int)) ++ [.tup (sj.map D.int)]) = setsD (ss ++ [sj]) := by unfold setsD; rw [List.map_append]; rfl
      rw [eS]
      show StN K [] _ [M.q ns, .e PoolD, .d (.lst (xs.map D.int)), .d (priD xs pr), a4, .o (setsD (ss ++ [sj])), a6, a7, .no, .no, .no, .no, .no, .no, .no, .no, .no] _
      have at0' : atI ((ss ++ [sj]).map fun s => D.tup (s.map D.int)) (0 : Int) = some (.tup (s0.map D.int)) := by
        have : (ss ++ [sj])[0]? = some s0 := by rw [List.getElem?_append_left hpos, hs0]
        exact atI_nat (j := 0) (by rw [List.getElem?_map, this]; rfl)
      have s0l : 0 < s0.length := List.length_pos_iff.mpr (hss s0 hs0').1
      have s0l2 : s0.length ≤ 6 := Nat.le_trans (hss s0 hs0').2.length_le Ulen
      have ev0 : EvP K (orE (tOp (rIx K) (tVar 5) (tC (V.int 0))) (tDGet (tVar 5) (tC (V.int 0)))) [M.q ns, .e PoolD, .d (.lst (xs.map D.int)), .d (priD xs pr), a4, .o (setsD (ss ++ [sj])), a6, a7, .no, .no, .no, .no, .no, .no, .no, .no, .no] (.tup (s0.map D.int)) := by
        refine' evp_ix (x := setsD (ss ++ [sj])) (y := .int 0) ?e1 ?e2 (v_ixl at0')
        case e1 => exact evb_varo rfl
        case e2 => walk_at "ev"
      refine st_expr (evn_append (ys := (ss ++ [sj]).map fun s => .tup (s.map D.int)) rfl (evn_slt_hi ev0 (evn_op (EvP.n (d := .int 1) (by walk_at "ev") (evn_draw (i := 1) (m := ((s0.map D.int).length : Nat)) rfl ?d9 (by rw [List.length_map]; omega) (by rw [List.length_map]; omega) fun v v0 v1 => ⟨.int (1 + v), v_add, _, rfl, ?d10⟩)))))
      case d9 => exact evp_cb ev0.b v_lent
      case d10 =>
      rw [List.length_map] at v1
      obtain ⟨j2, rfl⟩ : ∃ j : Nat, v = (j : Int) := ⟨v.toNat, by omega⟩
      rw [show (1 : Int) + (j2 : Int) = ((1 + j2 : Nat) : Int) by simp, cutD_to, ← List.map_take]
      refine ⟨(ss ++ [sj]).map fun s => .tup (s.map D.int), rfl, by rw [List.length_map, List.length_append, List.length_singleton]; omega, ?d11⟩
      case d11 =>
      have eS : D.lst (((ss ++ [sj]).map fun s => D.tup (s.map D.int)) ++ [.tup ((s0.take (1 + j2)).map D.int)]) = setsD (ss ++ [sj] ++ [s0.take (1 + j2)]) := by unfold setsD; rw [List.map_append (l₁ := ss ++ [sj])]; rfl
      rw [eS]
      refine rest (ss ++ [sj] ++ [s0.take (1 + j2)], a4, a6, a7) ⟨o4, o6, o7, fun t ht => ?_, by simp; omega⟩
      rcases List.mem_append.mp ht with z | z
      · rcases List.mem_append.mp z with z | z
        · exact hss t z
        · rw [List.mem_singleton] at z; rw [z]; exact hss sj (List.mem_of_getElem? hsj)
      · rw [List.mem_singleton] at z
        rw [z]
        refine ⟨fun e => ?_, (List.take_sublist _ _).trans (hss s0 hs0').2⟩
        have := congrArg List.length e
        rw [List.length_take, List.length_nil] at this
        omega
  case rest =>
  clear hss hs4 o4 o6 o7 ss a4 a6 a7
  rintro ⟨ss, a4, a6, a7⟩ ⟨o4, o6, o7, sok⟩
  dsimp only at o4 o6 o7 sok
  have inn : In ss xs pr := sok.inn Usrt Ulen fun t ht => (p2 t ht).1
  show StN K [] _ [M.q ns, .e PoolD, .d (.lst (xs.map D.int)), .d (priD xs pr), a4, .o (setsD ss), a6, a7, .no, .no, .no, .no, .no, .no, .no, .no, .no] _
  refine st_frz (i := 5) rfl rfl (by decide) ?_
  show StN K [] _ [M.q ns, .e PoolD, .d (.lst (xs.map D.int)), .d (priD xs pr), a4, .d (setsD ss), a6, a7, .no, .no, .no, .no, .no, .no, .no, .no, .no] _
  refine st_seq (st_seto (by decide) (evo_lc (vs := [7]) (f := fun s : List Int => D.tup (s.map D.int)) (Rel := fun (a : List Int) o => o = if okB ss a = true then some (D.tup (a.map D.int)) else none) (φ := fun ys => ys = lots xs) ?g1 ?g2 ?g3 ?g4))
  case g1 =>
    intro j hj m hm
    simp at hj
    subst hj
    cases hm
    exact o7
  case g2 =>
    refine wkn_lst (evn_call (arn_p (d := .lst (xs.map D.int)) (by walk_at "ev") (arn_nil ⟨(by simp [arChk, arOne, slots, ndB, Ar.slot?, M.own, arV, List.filterMap_cons, rdB_o, rdB_b, rdB_d]), xs, rfl, by omega, ?g5⟩)))
    case g5 =>
      refine ⟨_, rfl, rfl, lots xs, rfl, ?_, rfl⟩
      rw [lots_len]
      exact Nat.le_trans (Nat.pow_le_pow_right (by decide) Ulen) (by decide)
  case g3 =>
    intro ys ey a ha
    subst ey
    refine ⟨_, gt_name, TpP.n (b := okB ss a) ?g6 ⟨rfl, fun hb => by rw [hb]; rfl, fun hb => EvP.n (d := .tup (a.map D.int)) (by walk_at "ev") ⟨rfl, by rw [hb]; rfl⟩⟩⟩
    case g6 =>
      unfold okB
      refine' tpp_test (evp_op (x := .lst (((ss.filter fun one => decide ((one.filter fun t => decide (t ∈ a)) = [])).map fun _ => (1 : Int)).map D.int)) (y := .lst (([] : List Int).map D.int)) ?g7 ?g8 (v_eqT (emb_lst emb_int) (by decide)))
      case g8 => exact EvP.b (EvF.p (evf_lst app_nil (by decide)))
      case g7 =>
        refine' EvP.b (EvF.p (EvF.is (evf_lc (xs := ss) (f := fun s : List Int => D.tup (s.map D.int)) (r := fun _ => .int 1) (p := fun one => decide ((one.filter fun t => decide (t ∈ a)) = [])) ?g9 ?g10 ?g11) ?g12))
        case g9 =>
          refine' WkP.b (wkp_lst (ds := ss.map fun s : List Int => D.tup (s.map D.int)) ?g13)
          case g13 => exact evp_var rfl
        case g10 => have := sok.len; omega
        case g12 => rw [List.map_map]; rfl
        case g11 =>
          intro one hone
          have ol : one.length ≤ 50000 := by have := (sok.ok one hone).2.length_le; omega
          refine ⟨_, gt_name, ?_, fun _ => evp_int⟩
          refine' tpp_test (evp_op (x := .lst ((one.filter fun t => decide (t ∈ a)).map D.int)) (y := .lst (([] : List Int).map D.int)) ?g14 ?g15 (v_eqT (emb_lst emb_int) (by decide)))
          case g15 => exact EvP.b (EvF.p (evf_lst app_nil (by decide)))
          case g14 => walk_at "ev"
  case g4 =>
  intro ys ds' ey hsel
  subst ey
  have eg := sel_filter hsel
  subst eg
  clear hsel
  obtain ⟨good, egood⟩ : ∃ g, (lots xs).filter (okB ss) = g := ⟨_, rfl⟩
  have mem_good : ∀ s, s ∈ good ↔ List.Sublist s xs ∧ Hits ss s := fun s => by rw [← egood, List.mem_filter, lots_iff, okB_iff]
  have good_len : good.length ≤ 64 := by
    rw [← egood]
    refine Nat.le_trans (List.length_filter_le _ _) ?_
    rw [lots_len]
    exact Nat.pow_le_pow_right (by decide) Ulen
  rw [egood]
  have feas : ∀ s, s ∈ good → Feas ss xs s := fun s hs => ⟨Und.sublist ((mem_good s).mp hs).1, fun t ht => ((mem_good s).mp hs).1.subset ht, ((mem_good s).mp hs).2⟩
  have xs_good : xs ∈ good := (mem_good xs).mpr ⟨List.Sublist.refl _, fun s hs => by
    obtain ⟨t, ht⟩ := List.exists_mem_of_ne_nil s (sok.ok s hs).1
    exact ⟨t, ht, (sok.ok s hs).2.subset ht⟩⟩
  show StN K [] _ [M.q ns, .e PoolD, .d (.lst (xs.map D.int)), .d (priD xs pr), a4, .d (setsD ss), a6, a7, .o (.lst (good.map fun s => .tup (s.map D.int))), .no, .no, .no, .no, .no, .no, .no, .no] _
  refine st_frz (i := 8) rfl rfl (by decide) ?_
  show StN K [] _ [M.q ns, .e PoolD, .d (.lst (xs.map D.int)), .d (priD xs pr), a4, .d (setsD ss), a6, a7, .d (.lst (good.map fun s => .tup (s.map D.int))), .no, .no, .no, .no, .no, .no, .no, .no] _
  obtain ⟨m, hm1, hm2⟩ := ex_min (l := good.map fun s => (s.map pr).sum) (fun z => by rw [List.map_eq_nil_iff] at z; rw [z] at xs_good; cases xs_good)
  refine st_seq (st_setP (d := .int m) (by decide) ?p1 ?p2)
  case p1 =>
    refine' evp_cb ?p3 (v_min hm1 hm2)
    case p3 =>
    refine' EvP.b (EvF.p (evf_lcA (xs := good) (f := fun s : List Int => D.tup (s.map D.int)) ?p4 (by omega) ?p5))
    case p4 =>
      refine' WkP.b (wkp_lst ?p6)
      case p6 => exact evp_var rfl
    case p5 =>
      intro s hs
      refine ⟨_, gt_name, ?_⟩
      have hp : ∀ a, a ∈ s → lkD (xs.map fun t => (Sum.inl t : Key)) (xs.map fun t => D.int (pr t)) (Sum.inl a) = some (.int (pr a)) := fun a ha => lk_fun xs _ (((mem_good s).mp hs).1.subset ha)
      have sl : s.length ≤ 50000 := by have := ((mem_good s).mp hs).1.length_le; omega
      refine' evp_cb ?p7 v_sum
      case p7 =>
      refine' EvP.b (EvF.p (evf_lcA (xs := s) (f := D.int) ?p8 sl ?p9))
      case p8 => walk_at "wk"
      case p9 =>
        intro t ht
        refine ⟨_, gt_name, evp_dgeti (ks := xs.map fun t => (Sum.inl t : Key)) (xs := xs.map fun t => D.int (pr t)) (EvP.b (evp_var rfl)) (EvP.b (evp_var rfl)) (hp t ht)⟩
  case p2 =>
  show StN K [] _ [M.q ns, .e PoolD, .d (.lst (xs.map D.int)), .d (priD xs pr), a4, .d (setsD ss), a6, a7, .d (.lst (good.map fun s => .tup (s.map D.int))), .no, .d (.int m), .no, .no, .no, .no, .no, .no] _
  have gm : ∃ g, g ∈ good ∧ costOf pr g = m := by
    obtain ⟨g, h1, h2⟩ := List.mem_map.mp hm1
    exact ⟨g, h1, h2⟩
  have best : ∀ (v : Int) (b : List Int), b.Pairwise (· < ·) → Feas ss xs b → v = costOf pr b → (∀ T, Feas ss xs T → v ≤ costOf pr T) → b ∈ good ∧ v = m := fun v b h1 h2 h3 h4 => by
    have hb : b ∈ good := (mem_good b).mpr ⟨sub_of Usrt h1 h2.sub, h2.hits⟩
    refine ⟨hb, ?_⟩
    have k1 : m ≤ costOf pr b := hm2 _ (List.mem_map.mpr ⟨b, hb, rfl⟩)
    obtain ⟨g, g1, g2⟩ := gm
    have k2 := h4 g (feas g g1)
    omega
  have FE : ∃ T, Feas ss xs T := ⟨xs, feas xs xs_good⟩
  refine st_seq (st_asg (vs := [11, 12]) (by decide) (evn_call (arn_b (x := setsD ss) rfl rfl (arn_b (x := priD xs pr) rfl rfl (arn_nil ⟨(by simp [arChk, arOne, slots, ndB, Ar.slot?, M.own, arV, List.filterMap_cons, rdB_o, rdB_b, rdB_d]), ss, xs, pr, .d (setsD ss), rfl, rfl, inn, FE, fun b v h1 h2 h3 h4 => ⟨_, gt_pair, ?q1⟩⟩)))))
  case q1 =>
  obtain ⟨bg, ev⟩ := best v b h1 h2 h3 h4
  subst ev
  show StN K [] _ [M.q ns, .e PoolD, .d (.lst (xs.map D.int)), .d (priD xs pr), a4, .d (setsD ss), a6, a7, .d (.lst (good.map fun s => .tup (s.map D.int))), .no, .d (.int v), .d (.tup (b.map D.int)), .d (.int v), .no, .no, .no, .no] _
  have bl : b.length ≤ 6 := Nat.le_trans ((mem_good b).mp bg).1.length_le Ulen
  refine st_seq (st_if (tpn_or (tpn_not (tpn_tr (evn_call (arn_p (d := .int v) (by walk_at "ev") (arn_p (d := .int v) (by walk_at "ev") (arn_nil ⟨(by simp [arChk, arOne, slots, ndB, Ar.slot?, M.own, arV, List.filterMap_cons, rdB_o, rdB_b, rdB_d]), .inl ⟨v, v, rfl, _, rfl, fun _ => ?q2, fun z => (by simp at z)⟩⟩))))))))
  case q2 =>
  refine TpP.n (b := (!decide (b = b)) || ((!decide (b ∈ good)) || !decide ((b.map pr).sum = v))) ?q3 ⟨fun z => ?q4, fun _ => st_nil ?q5⟩
  case q4 =>
    have e1 : (b.map pr).sum = v := h3.symm
    simp [bg, e1] at z
  case q3 =>
    refine' tpp_or (tpp_test (evp_op (x := .lst (b.map D.int)) (y := .lst (b.map D.int)) ?r1 ?r2 (v_neT (emb_lst emb_int) (by decide)))) fun _ => tpp_or (tpp_test (EvP.is (evp_nin (x := .tup (b.map D.int)) (y := .lst (good.map fun s => .tup (s.map D.int))) ?r3 ?r4 (v_ninT (emb_tup emb_int) (by decide))) (congrArg (fun z => D.bl (!z)) (decide_eq_decide.mpr Iff.rfl)))) fun _ => tpp_test (evp_op ?r5 ?r6 v_nei)
    case r1 => exact EvP.b (EvF.p (evf_cb (EvP.b (evp_var rfl)) v_listt))
    case r2 => exact EvP.b (EvF.p (evf_sortset (ns := b) (EvP.b (evp_var rfl)) (by omega) h1 fun k => Iff.rfl))
    case r3 => exact EvP.b (evp_var rfl)
    case r4 => exact EvP.b (evp_var rfl)
    case r6 => exact EvP.b (evp_var rfl)
    case r5 =>
      refine' EvP.b (evp_cb (EvP.b (EvF.p (evf_lcA (xs := b) (f := D.int) (r := fun t => .int (pr t)) ?r7 (by omega) ?r8))) v_sum)
      case r7 =>
        refine' WkP.b (wkp_tup ?r9)
        case r9 => exact evp_var rfl
      case r8 =>
        intro t ht
        exact ⟨_, gt_name, evp_dgeti (ks := xs.map fun t => (Sum.inl t : Key)) (xs := xs.map fun t => D.int (pr t)) (EvP.b (evp_var rfl)) (EvP.b (evp_var rfl)) (lk_fun xs _ (h2.sub t ht))⟩
  case q5 =>
  show StN K [] _ [M.q ns, .e PoolD, .d (.lst (xs.map D.int)), .d (priD xs pr), a4, .d (setsD ss), a6, a7, .d (.lst (good.map fun s => .tup (s.map D.int))), .no, .d (.int v), .d (.tup (b.map D.int)), .d (.int v), .no, .no, .no, .no] _
  have B : Bst ss xs pr v := ⟨inn, FE, fun u b' k1 k2 k3 k4 => (best u b' k1 k2 k3 k4).2⟩
  have v0 : 0 ≤ v := by rw [h3]; exact cost_nonneg fun t ht => by have := (p2 t (h2.sub t ht)).1; omega
  have v18 : v ≤ 18 := by
    have k1 := h4 xs (feas xs xs_good)
    have k2 := cost_le fun t ht => (p2 t ht).2
    omega
  obtain ⟨vn, evn⟩ : ∃ k : Nat, v = (k : Int) := ⟨v.toNat, by omega⟩
  have eU : EvP K (tVar 3) [M.q ns, .e PoolD, .d (.lst (xs.map D.int)), .d (priD xs pr), a4, .d (setsD ss), a6, a7, .d (.lst (good.map fun s => .tup (s.map D.int))), .no, .d (.int v), .d (.tup (b.map D.int)), .d (.int v), .no, .no, .no, .no] (priD xs pr) := evp_var rfl
  refine' st_seq (st_if (tpn_or (tpn_test (evn_op (evn_cheapI B rfl ?t1 (EvP.n (d := .int v) (evp_var rfl) ⟨_, v_nei, _, rfl, fun _ => ?t3, fun z => ?t4⟩))))))
  case t1 => exact EvP.n (EvF.p (EvF.is (evf_revl (ds := ss.map fun s => .tup (s.map D.int)) (EvP.b (evp_var rfl))) (by rw [← List.map_reverse]; rfl))) ⟨ss.reverse, rfl, rfl, fun s => List.mem_reverse, by rw [List.length_reverse]; exact inn.slen⟩
  case t4 => simp at z
  case t3 =>
  refine' tpn_test (evn_op (evn_cheapI B rfl ?s1 (EvP.n (d := .int v) (evp_var rfl) ⟨_, v_nei, _, rfl, fun z => ?s4, fun _ => st_nil ?s5⟩)))
  case s4 => simp at z
  case s1 => exact EvO.n (evo_sortsetT (xs := ss) (EvP.b (evp_var rfl)) (by have := sok.len; omega) (fun s hs => (sok.ok s hs).1) fun ys _ hm hl => ⟨ys, rfl, rfl, hm, by omega⟩)
  case s5 =>
  show StN K [] _ [M.q ns, .e PoolD, .d (.lst (xs.map D.int)), .d (priD xs pr), a4, .d (setsD ss), a6, a7, .d (.lst (good.map fun s => .tup (s.map D.int))), .no, .d (.int v), .d (.tup (b.map D.int)), .d (.int v), .no, .no, .no, .no] _
  refine st_seq (st_for (vs := [13]) (fun _ S' => ∃ (c7 c13 c14 c15 c16 : M), S' = [M.q ns, .e PoolD, .d (.lst (xs.map D.int)), .d (priD xs pr), a4, .d (setsD ss), a6, c7, .d (.lst (good.map fun s => .tup (s.map D.int))), .no, .d (.int v), .d (.tup (b.map D.int)), .d (.int v), c13, c14, c15, c16] ∧ c7.own = false ∧ c13.own = false ∧ c14.own = false ∧ c15.own = false ∧ c16.own = false) (wkp_rng1 (n := vn + 1) ?f1 (by omega)) (by decide) ?f2 ?f3 ?f4)
  case f1 =>
    refine' EvP.b (EvP.is (evp_op (x := .int v) (y := .int 1) ?g1 ?g2 v_add) ?g3)
    case g1 => walk_at "ev"
    case g2 => walk_at "ev"
    case g3 => rw [evn]; simp
  case f2 => exact ⟨a7, .no, .no, .no, .no, rfl, o7, rfl, rfl, rfl, rfl⟩
  case f4 =>
    rintro S' ⟨c7, c13, c14, c15, c16, rfl, -⟩
    exact st_retP (d := .bl true) (by walk_at "ev") ⟨by show 1 ≤ 17; decide, hR⟩
  case f3 =>
  rintro i d S' hd ⟨c7, c13, c14, c15, c16, rfl, o7, o13, o14, o15, o16⟩
  refine ⟨_, gt_name, ?_⟩
  obtain ⟨hi, rfl⟩ := rgD_get hd
  obtain ⟨low, elow⟩ : ∃ low : Int, 0 + (i : Int) = low := ⟨_, rfl⟩
  rw [elow]
  have hlow : low ≤ v := by omega
  clear hd elow hi
  show StN K [] _ [M.q ns, .e PoolD, .d (.lst (xs.map D.int)), .d (priD xs pr), a4, .d (setsD ss), a6, c7, .d (.lst (good.map fun s => .tup (s.map D.int))), .no, .d (.int v), .d (.tup (b.map D.int)), .d (.int v), .d (.int low), c14, c15, c16] _
  refine st_seq (st_set (by decide) (evn_call (arn_b (x := setsD ss) rfl rfl (arn_b (x := priD xs pr) rfl rfl (arn_b (x := .int low) rfl rfl (arn_nil ⟨(by simp [arChk, arOne, slots, ndB, Ar.slot?, M.own, arV, List.filterMap_cons, rdB_o, rdB_b, rdB_d]), ss, xs, pr, low, .d (setsD ss), .d (.int low), rfl, rfl, rfl, inn, fun T F => Int.le_trans hlow (h4 T F), fun t t1 t2 t3 => ?h2⟩))))))
  case h2 =>
  show StN K [] _ [M.q ns, .e PoolD, .d (.lst (xs.map D.int)), .d (priD xs pr), a4, .d (setsD ss), a6, c7, .d (.lst (good.map fun s => .tup (s.map D.int))), .no, .d (.int v), .d (.tup (b.map D.int)), .d (.int v), .d (.int low), .d (trD t), c15, c16] _
  refine' st_seq (st_if (tpn_or (tpn_test (evn_op (evn_right (t := t) (evp_var rfl) (evp_var rfl) (evp_var rfl) (evp_var rfl) inn (by omega) (by omega) (EvP.n (d := .bl true) (by walk_at "ev") ⟨_, v_isnB, _, rfl, fun _ => ?i1, fun z => ?i2⟩))))))
  case i2 => simp [t1] at z
  case i1 =>
  refine' tpn_or (tpn_test (evn_op (evn_right (t := t) (evp_var rfl) (evp_var rfl) (evp_var rfl) (evp_var rfl) inn (by omega) (by omega) (EvP.n (d := .bl true) (by walk_at "ev") ⟨_, v_isnB, _, rfl, fun _ => ?i3, fun z => ?i4⟩))))
  case i4 => simp [t1] at z
  case i3 =>
  refine' tpn_not (tpn_tr (evn_call (arn_p (d := trD t) (evp_var rfl) (arn_nil ⟨(by simp [arChk, arOne, slots, ndB, Ar.slot?, M.own, arV, List.filterMap_cons, rdB_o, rdB_b, rdB_d]), trD t, rfl, plain_tr t 40 (by omega) t2, true, rfl, fun z => ?i5, fun _ => st_nil ?i6⟩))))
  case i5 => cases z
  case i6 =>
  show StN K [] _ [M.q ns, .e PoolD, .d (.lst (xs.map D.int)), .d (priD xs pr), a4, .d (setsD ss), a6, c7, .d (.lst (good.map fun s => .tup (s.map D.int))), .no, .d (.int v), .d (.tup (b.map D.int)), .d (.int v), .d (.int low), .d (trD t), c15, c16] _
  refine st_seq (st_forT (vs := [15]) (xs := [v + 1, low + 1, 0, v]) (f := D.int) (fun _ S' => ∃ c15 : M, S' = [M.q ns, .e PoolD, .d (.lst (xs.map D.int)), .d (priD xs pr), a4, .d (setsD ss), a6, c7, .d (.lst (good.map fun s => .tup (s.map D.int))), .no, .d (.int v), .d (.tup (b.map D.int)), .d (.int v), .d (.int low), .d (trD t), c15, c16] ∧ c15.own = false) ?j1 (by decide) ⟨c15, rfl, o15⟩ ?j3 ?j4)
  case j1 =>
    refine' wkp_tup (EvP.is (d := .tup [.int (v + 1), .int (low + 1), .int 0, .int v]) ?j5 rfl)
    case j5 => walk_at "ev"
  case j3 =>
    rintro pre a post S' _ ⟨c15, rfl, o15⟩
    refine ⟨_, gt_name, ?_⟩
    show StN K [] _ [M.q ns, .e PoolD, .d (.lst (xs.map D.int)), .d (priD xs pr), a4, .d (setsD ss), a6, c7, .d (.lst (good.map fun s => .tup (s.map D.int))), .no, .d (.int v), .d (.tup (b.map D.int)), .d (.int v), .d (.int low), .d (trD t), .d (.int a), c16] _
    refine' st_if (tpn_not (tpn_tr (evn_both (t := t) (low := a) (evp_var rfl) (evp_var rfl) (evp_var rfl) (evp_var rfl) inn (by omega) (by omega) ⟨true, rfl, fun z => ?j6, fun _ => st_nil ⟨.d (.int a), rfl, rfl⟩⟩)))
    case j6 => cases z
  case j4 =>
  clear o15 c15
  rintro S' ⟨c15, rfl, o15⟩
  show StN K [] _ [M.q ns, .e PoolD, .d (.lst (xs.map D.int)), .d (priD xs pr), a4, .d (setsD ss), a6, c7, .d (.lst (good.map fun s => .tup (s.map D.int))), .no, .d (.int v), .d (.tup (b.map D.int)), .d (.int v), .d (.int low), .d (trD t), c15, c16] _
  refine st_seq (st_for (vs := [16]) (fun _ S' => ∃ c7 c16 : M, S' = [M.q ns, .e PoolD, .d (.lst (xs.map D.int)), .d (priD xs pr), a4, .d (setsD ss), a6, c7, .d (.lst (good.map fun s => .tup (s.map D.int))), .no, .d (.int v), .d (.tup (b.map D.int)), .d (.int v), .d (.int low), .d (trD t), c15, c16] ∧ c7.own = false ∧ c16.own = false) (wkp_rng1 (n := 4) ?k1 (by decide)) (by decide) ⟨c7, c16, rfl, o7, o16⟩ ?k3 ?k4)
  case k1 => exact EvP.b evp_int
  case k3 =>
    rintro i d S' _ ⟨c7, c16, rfl, o7, o16⟩
    refine ⟨_, gt_name, ?_⟩
    show StN K [] _ [M.q ns, .e PoolD, .d (.lst (xs.map D.int)), .d (priD xs pr), a4, .d (setsD ss), a6, c7, .d (.lst (good.map fun s => .tup (s.map D.int))), .no, .d (.int v), .d (.tup (b.map D.int)), .d (.int v), .d (.int low), .d (trD t), c15, .d d] _
    refine' st_ifP (b := !decide (ss = [])) ?l1 ?l2 ?l3
    case l1 =>
      refine' tpp_test (evp_op (x := .lst (ss.map fun s => .tup (s.map D.int))) (y := .lst (([] : List (List Int)).map fun s => .tup (s.map D.int))) ?l4 ?l5 (v_neT (emb_lst (emb_tup emb_int)) (by decide)))
      case l4 => exact EvP.b (evp_var rfl)
      case l5 => exact EvP.b (EvF.p (evf_lst app_nil (by decide)))
    case l3 => exact fun _ => st_nil ⟨c7, .d d, rfl, o7, rfl⟩
    case l2 =>
    intro hb
    have hpos : 0 < ss.length := by
      rw [Bool.not_eq_true'] at hb
      exact List.length_pos_iff.mpr (of_decide_eq_false hb)
    have hlen := sok.len
    refine st_seq (st_set (by decide) (evn_call (arn_s (m := .e PoolD) rfl rfl (arn_p (d := trD t) (evp_var rfl) (arn_p (d := .int ss.length) ?l6 (arn_nil ⟨(by simp [arChk, arOne, slots, ndB, Ar.slot?, M.own, arV, List.filterMap_cons, rdB_o, rdB_b, rdB_d]), t, ss.length, rfl, by omega, by omega, by omega, by omega, by omega, fun t' s1 s2 => ?l7⟩))))))
    case l6 => exact EvP.is (evp_cb (x := .lst (ss.map fun s => .tup (s.map D.int))) (EvP.b (evp_var rfl)) v_lenl) (by rw [List.length_map])
    case l7 =>
    show StN K [] _ [M.q ns, .e PoolD, .d (.lst (xs.map D.int)), .d (priD xs pr), a4, .d (setsD ss), a6, .d (trD t'), .d (.lst (good.map fun s => .tup (s.map D.int))), .no, .d (.int v), .d (.tup (b.map D.int)), .d (.int v), .d (.int low), .d (trD t), c15, .d d] _
    refine' st_if (tpn_not (tpn_tr (evn_both (t := t') (evp_var rfl) (evp_var rfl) (evp_var rfl) (evp_var rfl) inn (by omega) (by omega) ⟨true, rfl, fun z => ?l8, fun _ => st_nil ⟨.d (trD t'), .d d, rfl, rfl, rfl⟩⟩)))
    case l8 => cases z
  case k4 =>
  clear o7 c7 o16 c16
  rintro S' ⟨c7, c16, rfl, o7, o16⟩
  show StN K [] _ [M.q ns, .e PoolD, .d (.lst (xs.map D.int)), .d (priD xs pr), a4, .d (setsD ss), a6, c7, .d (.lst (good.map fun s => .tup (s.map D.int))), .no, .d (.int v), .d (.tup (b.map D.int)), .d (.int v), .d (.int low), .d (trD t), c15, c16] _
  refine' st_if (tpn_not (tpn_tr (evn_both (t := t) (ss := ss.reverse) ?m1 (evp_var rfl) (evp_var rfl) (evp_var rfl) ?m2 (by omega) (by omega) ⟨true, rfl, fun z => ?m3, fun _ => st_nil ⟨c7, .d (.int low), .d (trD t), c15, c16, rfl, o7, rfl, rfl, o15, o16⟩⟩)))
  case m3 => cases z
  case m2 => exact inn.congr (fun s => List.mem_reverse) (by rw [List.length_reverse]; exact inn.slen)
  case m1 => exact EvF.p (EvF.is (evf_revl (ds := ss.map fun s => .tup (s.map D.int)) (EvP.b (evp_var rfl))) (by unfold setsD; rw [← List.map_reverse]))
end
open PySem L2 Evl PyProof.Rows Dl HM
theorem all_mk {w : World} {K : PySem.W.Frag} {h : Heap} {mg : Str → Option Value} {fa CH f1 f2 f3 f4 f5 f6 f7 f8 f9 f10 f11 f12 f13 f14 f15 f16 f17 f18 f19 : Addr} (X : K.In h) (G : h.Ns mainGlobals mg) (hfa : mg "law" = some (.ref fa))
    {od1 an1 : Option Addr} {sl1 : Array (Option Value)} {oc1 kV1 dc1 pm1 cd1 ct1 : Value}
    {od2 an2 : Option Addr} {sl2 : Array (Option Value)} {oc2 kV2 dc2 pm2 cd2 ct2 : Value}
    {od3 an3 : Option Addr} {sl3 : Array (Option Value)} {oc3 kV3 dc3 pm3 cd3 ct3 : Value}
    {od4 an4 : Option Addr} {sl4 : Array (Option Value)} {oc4 kV4 dc4 pm4 cd4 ct4 : Value}
    {od5 an5 : Option Addr} {sl5 : Array (Option Value)} {oc5 kV5 dc5 pm5 cd5 ct5 : Value}
    {od6 an6 : Option Addr} {sl6 : Array (Option Value)} {oc6 kV6 dc6 pm6 cd6 ct6 : Value}
    {od7 an7 : Option Addr} {sl7 : Array (Option Value)} {oc7 kV7 dc7 pm7 cd7 ct7 : Value}
    {od8 an8 : Option Addr} {sl8 : Array (Option Value)} {oc8 kV8 dc8 pm8 cd8 ct8 : Value}
    {od9 an9 : Option Addr} {sl9 : Array (Option Value)} {oc9 kV9 dc9 pm9 cd9 ct9 : Value}
    {od10 an10 : Option Addr} {sl10 : Array (Option Value)} {oc10 kV10 dc10 pm10 cd10 ct10 : Value}
    {od11 an11 : Option Addr} {sl11 : Array (Option Value)} {oc11 kV11 dc11 pm11 cd11 ct11 : Value}
    {od12 an12 : Option Addr} {sl12 : Array (Option Value)} {oc12 kV12 dc12 pm12 cd12 ct12 : Value}
    {od13 an13 : Option Addr} {sl13 : Array (Option Value)} {oc13 kV13 dc13 pm13 cd13 ct13 : Value}
    {od14 an14 : Option Addr} {sl14 : Array (Option Value)} {oc14 kV14 dc14 pm14 cd14 ct14 : Value}
    {od15 an15 : Option Addr} {sl15 : Array (Option Value)} {oc15 kV15 dc15 pm15 cd15 ct15 : Value}
    {od16 an16 : Option Addr} {sl16 : Array (Option Value)} {oc16 kV16 dc16 pm16 cd16 ct16 : Value}
    {od17 an17 : Option Addr} {sl17 : Array (Option Value)} {oc17 kV17 dc17 pm17 cd17 ct17 : Value}
    {od18 an18 : Option Addr} {sl18 : Array (Option Value)} {oc18 kV18 dc18 pm18 cd18 ct18 : Value}
    {od19 an19 : Option Addr} {sl19 : Array (Option Value)} {oc19 kV19 dc19 pm19 cd19 ct19 : Value}
    {t_g_MOST_NODES : _}
    (cA_Hitter : PySem.W.nsIn K mainGlobals "Hitter" = some (some (.ref CH)))
    (pg_Hitter : PySem.W.plainGet K CH Str.empty = true)
    (hd_Hitter : PySem.W.hasDictIn K CH = true)
    (po_Hitter : PySem.W.plainOver K CH = true)
    (sa_Hitter : PySem.W.findIn K (.ref CH) "__setattr__" = some (some (.builtin "object.__setattr__")))
    (mk_Hitter : PySem.W.makesIn K CH = true)
    (kc_Hitter : PySem.W.keepIn K (.ref CH) = true)
    (a1 : PySem.W.findIn K (.ref CH) "__init__" = some (some (.ref f1)))
    (i1 : PySem.W.isFn K (.ref f1) = true)
    (l1 : K.lookup f1 = some ⟨oc1, od1, .func (PySem.W.fnOf "__init__" "Hitter.__init__" (defArgs s_Hitter_init) (defBody s_Hitter_init) (defScope s_Hitter_init) .none kV1 dc1 pm1 an1 cd1 ct1), sl1⟩)
    (c1 : PySem.W.codeIn K cd1 "Hitter.__init__" = true)
    (k1 : PySem.W.keepIn K (.ref f1) = true)
    (a2 : PySem.W.findIn K (.ref CH) "cost" = some (some (.ref f2)))
    (i2 : PySem.W.isFn K (.ref f2) = true)
    (l2 : K.lookup f2 = some ⟨oc2, od2, .func (PySem.W.fnOf "cost" "Hitter.cost" (defArgs s_Hitter_cost) (defBody s_Hitter_cost) (defScope s_Hitter_cost) .none kV2 dc2 pm2 an2 cd2 ct2), sl2⟩)
    (c2 : PySem.W.codeIn K cd2 "Hitter.cost" = true)
    (k2 : PySem.W.keepIn K (.ref f2) = true)
    (a3 : PySem.W.findIn K (.ref CH) "floor" = some (some (.ref f3)))
    (i3 : PySem.W.isFn K (.ref f3) = true)
    (l3 : K.lookup f3 = some ⟨oc3, od3, .func (PySem.W.fnOf "floor" "Hitter.floor" (defArgs s_Hitter_floor) (defBody s_Hitter_floor) (defScope s_Hitter_floor) .none kV3 dc3 pm3 an3 cd3 ct3), sl3⟩)
    (c3 : PySem.W.codeIn K cd3 "Hitter.floor" = true)
    (k3 : PySem.W.keepIn K (.ref f3) = true)
    (a4 : PySem.W.findIn K (.ref CH) "missed" = some (some (.ref f4)))
    (i4 : PySem.W.isFn K (.ref f4) = true)
    (l4 : K.lookup f4 = some ⟨oc4, od4, .func (PySem.W.fnOf "missed" "Hitter.missed" (defArgs s_Hitter_missed) (defBody s_Hitter_missed) (defScope s_Hitter_missed) .none kV4 dc4 pm4 an4 cd4 ct4), sl4⟩)
    (c4 : PySem.W.codeIn K cd4 "Hitter.missed" = true)
    (k4 : PySem.W.keepIn K (.ref f4) = true)
    (a5 : PySem.W.findIn K (.ref CH) "go_on" = some (some (.ref f5)))
    (i5 : PySem.W.isFn K (.ref f5) = true)
    (l5 : K.lookup f5 = some ⟨oc5, od5, .func (PySem.W.fnOf "go_on" "Hitter.go_on" (defArgs s_Hitter_go_on) (defBody s_Hitter_go_on) (defScope s_Hitter_go_on) .none kV5 dc5 pm5 an5 cd5 ct5), sl5⟩)
    (c5 : PySem.W.codeIn K cd5 "Hitter.go_on" = true)
    (k5 : PySem.W.keepIn K (.ref f5) = true)
    (a6 : PySem.W.findIn K (.ref CH) "ordered" = some (some (.ref f6)))
    (i6 : PySem.W.isFn K (.ref f6) = true)
    (l6 : K.lookup f6 = some ⟨oc6, od6, .func (PySem.W.fnOf "ordered" "Hitter.ordered" (defArgs s_Hitter_ordered) (defBody s_Hitter_ordered) (defScope s_Hitter_ordered) .none kV6 dc6 pm6 an6 cd6 ct6), sl6⟩)
    (c6 : PySem.W.codeIn K cd6 "Hitter.ordered" = true)
    (k6 : PySem.W.keepIn K (.ref f6) = true)
    (a7 : PySem.W.findIn K (.ref CH) "tree" = some (some (.ref f7)))
    (i7 : PySem.W.isFn K (.ref f7) = true)
    (l7 : K.lookup f7 = some ⟨oc7, od7, .func (PySem.W.fnOf "tree" "Hitter.tree" (defArgs s_Hitter_tree) (defBody s_Hitter_tree) (defScope s_Hitter_tree) .none kV7 dc7 pm7 an7 cd7 ct7), sl7⟩)
    (c7 : PySem.W.codeIn K cd7 "Hitter.tree" = true)
    (k7 : PySem.W.keepIn K (.ref f7) = true)
    (a8 : PySem.W.nsIn K mainGlobals "are_sets" = some (some (.ref f8)))
    (l8 : K.lookup f8 = some ⟨oc8, od8, .func (PySem.W.fnOf "are_sets" "are_sets" (defArgs s_are_sets) (defBody s_are_sets) (defScope s_are_sets) .none kV8 dc8 pm8 an8 cd8 ct8), sl8⟩)
    (c8 : PySem.W.codeIn K cd8 "are_sets" = true)
    (k8 : PySem.W.keepIn K (.ref f8) = true)
    (a9 : PySem.W.nsIn K mainGlobals "cheapest_hit" = some (some (.ref f9)))
    (l9 : K.lookup f9 = some ⟨oc9, od9, .func (PySem.W.fnOf "cheapest_hit" "cheapest_hit" (defArgs s_cheapest_hit) (defBody s_cheapest_hit) (defScope s_cheapest_hit) .none kV9 dc9 pm9 an9 cd9 ct9), sl9⟩)
    (c9 : PySem.W.codeIn K cd9 "cheapest_hit" = true)
    (k9 : PySem.W.keepIn K (.ref f9) = true)
    (a10 : PySem.W.nsIn K mainGlobals "hit_tree" = some (some (.ref f10)))
    (l10 : K.lookup f10 = some ⟨oc10, od10, .func (PySem.W.fnOf "hit_tree" "hit_tree" (defArgs s_hit_tree) (defBody s_hit_tree) (defScope s_hit_tree) .none kV10 dc10 pm10 an10 cd10 ct10), sl10⟩)
    (c10 : PySem.W.codeIn K cd10 "hit_tree" = true)
    (k10 : PySem.W.keepIn K (.ref f10) = true)
    (a11 : PySem.W.nsIn K mainGlobals "tree_right" = some (some (.ref f11)))
    (l11 : K.lookup f11 = some ⟨oc11, od11, .func (PySem.W.fnOf "tree_right" "tree_right" (defArgs s_tree_right) (defBody s_tree_right) (defScope s_tree_right) .none kV11 dc11 pm11 an11 cd11 ct11), sl11⟩)
    (c11 : PySem.W.codeIn K cd11 "tree_right" = true)
    (k11 : PySem.W.keepIn K (.ref f11) = true)
    (a12 : PySem.W.nsIn K mainGlobals "_law_pool" = some (some (.ref f12)))
    (l12 : K.lookup f12 = some ⟨oc12, od12, .func (PySem.W.fnOf "_law_pool" "_law_pool" (defArgs s_law_pool) (defBody s_law_pool) (defScope s_law_pool) .none kV12 dc12 pm12 an12 cd12 ct12), sl12⟩)
    (c12 : PySem.W.codeIn K cd12 "_law_pool" = true)
    (k12 : PySem.W.keepIn K (.ref f12) = true)
    (a13 : PySem.W.nsIn K mainGlobals "_law_draw" = some (some (.ref f13)))
    (l13 : K.lookup f13 = some ⟨oc13, od13, .func (PySem.W.fnOf "_law_draw" "_law_draw" (defArgs s_law_draw) (defBody s_law_draw) (defScope s_law_draw) .none kV13 dc13 pm13 an13 cd13 ct13), sl13⟩)
    (c13 : PySem.W.codeIn K cd13 "_law_draw" = true)
    (k13 : PySem.W.keepIn K (.ref f13) = true)
    (a14 : PySem.W.nsIn K mainGlobals "_law_same" = some (some (.ref f14)))
    (l14 : K.lookup f14 = some ⟨oc14, od14, .func (PySem.W.fnOf "_law_same" "_law_same" (defArgs s_law_same) (defBody s_law_same) (defScope s_law_same) .none kV14 dc14 pm14 an14 cd14 ct14), sl14⟩)
    (c14 : PySem.W.codeIn K cd14 "_law_same" = true)
    (k14 : PySem.W.keepIn K (.ref f14) = true)
    (a15 : PySem.W.nsIn K mainGlobals "_law_hits" = some (some (.ref f15)))
    (l15 : K.lookup f15 = some ⟨oc15, od15, .func (PySem.W.fnOf "_law_hits" "_law_hits" (defArgs s_law_hits) (defBody s_law_hits) (defScope s_law_hits) .none kV15 dc15 pm15 an15 cd15 ct15), sl15⟩)
    (c15 : PySem.W.codeIn K cd15 "_law_hits" = true)
    (k15 : PySem.W.keepIn K (.ref f15) = true)
    (a16 : PySem.W.nsIn K mainGlobals "_law_plain" = some (some (.ref f16)))
    (l16 : K.lookup f16 = some ⟨oc16, od16, .func (PySem.W.fnOf "_law_plain" "_law_plain" (defArgs s_law_plain) (defBody s_law_plain) (defScope s_law_plain) .none kV16 dc16 pm16 an16 cd16 ct16), sl16⟩)
    (c16 : PySem.W.codeIn K cd16 "_law_plain" = true)
    (k16 : PySem.W.keepIn K (.ref f16) = true)
    (a17 : PySem.W.nsIn K mainGlobals "_law_lots" = some (some (.ref f17)))
    (l17 : K.lookup f17 = some ⟨oc17, od17, .func (PySem.W.fnOf "_law_lots" "_law_lots" (defArgs s_law_lots) (defBody s_law_lots) (defScope s_law_lots) .none kV17 dc17 pm17 an17 cd17 ct17), sl17⟩)
    (c17 : PySem.W.codeIn K cd17 "_law_lots" = true)
    (k17 : PySem.W.keepIn K (.ref f17) = true)
    (a18 : PySem.W.nsIn K mainGlobals "_law_changed" = some (some (.ref f18)))
    (l18 : K.lookup f18 = some ⟨oc18, od18, .func (PySem.W.fnOf "_law_changed" "_law_changed" (defArgs s_law_changed) (defBody s_law_changed) (defScope s_law_changed) .none kV18 dc18 pm18 an18 cd18 ct18), sl18⟩)
    (c18 : PySem.W.codeIn K cd18 "_law_changed" = true)
    (k18 : PySem.W.keepIn K (.ref f18) = true)
    (a19 : PySem.W.nsIn K mainGlobals "law" = some (some (.ref f19)))
    (l19 : K.lookup f19 = some ⟨oc19, od19, .func (PySem.W.fnOf "law" "law" (defArgs s_law) (defBody s_law) (defScope s_law) .none kV19 dc19 pm19 an19 cd19 ct19), sl19⟩)
    (c19 : PySem.W.codeIn K cd19 "law" = true)
    (k19 : PySem.W.keepIn K (.ref f19) = true)
    (z_f_sets : PySem.W.findIn K (.ref CH) "sets" = some none)
    (z_f_prices : PySem.W.findIn K (.ref CH) "prices" = some none)
    (z_f_best : PySem.W.findIn K (.ref CH) "best" = some none)
    (z_f_least : PySem.W.findIn K (.ref CH) "least" = some none)
    (z_f_nodes : PySem.W.findIn K (.ref CH) "nodes" = some none)
    (z_n_sum : PySem.W.nsIn K mainGlobals "sum" = some none)
    (z_n_any : PySem.W.nsIn K mainGlobals "any" = some none)
    (z_n_min : PySem.W.nsIn K mainGlobals "min" = some none)
    (z_n_enumerate : PySem.W.nsIn K mainGlobals "enumerate" = some none)
    (z_n_list : PySem.W.nsIn K mainGlobals "list" = some none)
    (z_n_tuple : PySem.W.nsIn K mainGlobals "tuple" = some none)
    (z_n_sorted : PySem.W.nsIn K mainGlobals "sorted" = some none)
    (z_n_len : PySem.W.nsIn K mainGlobals "len" = some none)
    (z_n_range : PySem.W.nsIn K mainGlobals "range" = some none)
    (z_n_dict : PySem.W.nsIn K mainGlobals "dict" = some none)
    (z_n_set : PySem.W.nsIn K mainGlobals "set" = some none)
    (z_n_int : PySem.W.nsIn K mainGlobals "int" = some none)
    (z_n_all : PySem.W.nsIn K mainGlobals "all" = some none)
    (z_n_isinstance : PySem.W.nsIn K mainGlobals "isinstance" = some none)
    (z_n_str : PySem.W.nsIn K mainGlobals "str" = some none)
    (z_n_bool : PySem.W.nsIn K mainGlobals "bool" = some none)
    (z_g_MOST_NODES : PySem.W.nsIn K mainGlobals "MOST_NODES" = some (some (.int 20000 t_g_MOST_NODES)))
    : ∃ fd : FuncData, (∀ (s : Shared) (v : Value), BindsTo s fd ⟨[v], []⟩ [("script", v)]) ∧ ∀ base : Heap, K.In base → base.Ns mainGlobals mg → FnOk PySem.Challenge.rw_coresprice_k73_whole_things_that_are_hit.prog w K mg base CX0 41 fa fd ["script"] (spD K ct_law) := by
  have e := hfa.symm.trans (PySem.W.mg_of X G a19)
  cases e
  have cl_Hitter : Cls K CH := ⟨pg_Hitter, hd_Hitter, po_Hitter, sa_Hitter⟩
  have G1 := fun_mk (st := s_Hitter_init) l1 c1 k1
  have B1 := G1.binds (ps := ["self", "sets", "prices"]) fun _ _ _ _ _ _ us hl => match us, hl with | [_, _, _], _ => rfl
  have F_Hitter_init : InitAt K mg "Hitter" CH "__init__" "Hitter.__init__" s_Hitter_init ["self", "sets", "prices"] := ⟨_, _, ⟨mk_Hitter, a1, i1, kc_Hitter⟩, PySem.W.mg_of X G cA_Hitter, G1, B1⟩
  have G2 := fun_mk (st := s_Hitter_cost) l2 c2 k2
  have B2 := G2.binds (ps := ["self", "chosen"]) fun _ _ _ _ _ _ us hl => match us, hl with | [_, _], _ => rfl
  have F_Hitter_cost : MethAt K CH "cost" "Hitter.cost" s_Hitter_cost ["self", "chosen"] := ⟨_, _, ⟨a2, i2, k2⟩, G2, B2⟩
  have G3 := fun_mk (st := s_Hitter_floor) l3 c3 k3
  have B3 := G3.binds (ps := ["self", "chosen", "barred"]) fun _ _ _ _ _ _ us hl => match us, hl with | [_, _, _], _ => rfl
  have F_Hitter_floor : MethAt K CH "floor" "Hitter.floor" s_Hitter_floor ["self", "chosen", "barred"] := ⟨_, _, ⟨a3, i3, k3⟩, G3, B3⟩
  have G4 := fun_mk (st := s_Hitter_missed) l4 c4 k4
  have B4 := G4.binds (ps := ["self", "chosen"]) fun _ _ _ _ _ _ us hl => match us, hl with | [_, _], _ => rfl
  have F_Hitter_missed : MethAt K CH "missed" "Hitter.missed" s_Hitter_missed ["self", "chosen"] := ⟨_, _, ⟨a4, i4, k4⟩, G4, B4⟩
  have G5 := fun_mk (st := s_Hitter_go_on) l5 c5 k5
  have B5 := G5.binds (ps := ["self", "chosen", "barred"]) fun _ _ _ _ _ _ us hl => match us, hl with | [_, _, _], _ => rfl
  have F_Hitter_go_on : MethAt K CH "go_on" "Hitter.go_on" s_Hitter_go_on ["self", "chosen", "barred"] := ⟨_, _, ⟨a5, i5, k5⟩, G5, B5⟩
  have G6 := fun_mk (st := s_Hitter_ordered) l6 c6 k6
  have B6 := G6.binds (ps := ["self", "own", "barred"]) fun _ _ _ _ _ _ us hl => match us, hl with | [_, _, _], _ => rfl
  have F_Hitter_ordered : MethAt K CH "ordered" "Hitter.ordered" s_Hitter_ordered ["self", "own", "barred"] := ⟨_, _, ⟨a6, i6, k6⟩, G6, B6⟩
  have G7 := fun_mk (st := s_Hitter_tree) l7 c7 k7
  have B7 := G7.binds (ps := ["self", "chosen", "barred", "low"]) fun _ _ _ _ _ _ us hl => match us, hl with | [_, _, _, _], _ => rfl
  have F_Hitter_tree : MethAt K CH "tree" "Hitter.tree" s_Hitter_tree ["self", "chosen", "barred", "low"] := ⟨_, _, ⟨a7, i7, k7⟩, G7, B7⟩
  have G8 := fun_mk (st := s_are_sets) l8 c8 k8
  have B8 := G8.binds (ps := ["sets", "prices"]) fun _ _ _ _ _ _ us hl => match us, hl with | [_, _], _ => rfl
  have F_are_sets : FunAt K mg "are_sets" s_are_sets ["sets", "prices"] := ⟨_, _, PySem.W.mg_of X G a8, G8, B8⟩
  have G9 := fun_mk (st := s_cheapest_hit) l9 c9 k9
  have B9 := G9.binds (ps := ["sets", "prices"]) fun _ _ _ _ _ _ us hl => match us, hl with | [_, _], _ => rfl
  have F_cheapest_hit : FunAt K mg "cheapest_hit" s_cheapest_hit ["sets", "prices"] := ⟨_, _, PySem.W.mg_of X G a9, G9, B9⟩
  have G10 := fun_mk (st := s_hit_tree) l10 c10 k10
  have B10 := G10.binds (ps := ["sets", "prices", "low"]) fun _ _ _ _ _ _ us hl => match us, hl with | [_, _, _], _ => rfl
  have F_hit_tree : FunAt K mg "hit_tree" s_hit_tree ["sets", "prices", "low"] := ⟨_, _, PySem.W.mg_of X G a10, G10, B10⟩
  have G11 := fun_mk (st := s_tree_right) l11 c11 k11
  have B11 := G11.binds (ps := ["sets", "prices", "low", "tree"]) fun _ _ _ _ _ _ us hl => match us, hl with | [_, _, _, _], _ => rfl
  have F_tree_right : FunAt K mg "tree_right" s_tree_right ["sets", "prices", "low", "tree"] := ⟨_, _, PySem.W.mg_of X G a11, G11, B11⟩
  have G12 := fun_mk (st := s_law_pool) l12 c12 k12
  have B12 := G12.binds (ps := ["script", "budget"]) fun _ _ _ _ _ _ us hl => match us, hl with | [_, _], _ => rfl
  have F_law_pool : FunAt K mg "_law_pool" s_law_pool ["script", "budget"] := ⟨_, _, PySem.W.mg_of X G a12, G12, B12⟩
  have G13 := fun_mk (st := s_law_draw) l13 c13 k13
  have B13 := G13.binds (ps := ["pool", "size"]) fun _ _ _ _ _ _ us hl => match us, hl with | [_, _], _ => rfl
  have F_law_draw : FunAt K mg "_law_draw" s_law_draw ["pool", "size"] := ⟨_, _, PySem.W.mg_of X G a13, G13, B13⟩
  have G14 := fun_mk (st := s_law_same) l14 c14 k14
  have B14 := G14.binds (ps := ["actual", "due"]) fun _ _ _ _ _ _ us hl => match us, hl with | [_, _], _ => rfl
  have F_law_same : FunAt K mg "_law_same" s_law_same ["actual", "due"] := ⟨_, _, PySem.W.mg_of X G a14, G14, B14⟩
  have G15 := fun_mk (st := s_law_hits) l15 c15 k15
  have B15 := G15.binds (ps := ["sets", "prices", "low", "tree"]) fun _ _ _ _ _ _ us hl => match us, hl with | [_, _, _, _], _ => rfl
  have F_law_hits : FunAt K mg "_law_hits" s_law_hits ["sets", "prices", "low", "tree"] := ⟨_, _, PySem.W.mg_of X G a15, G15, B15⟩
  have G16 := fun_mk (st := s_law_plain) l16 c16 k16
  have B16 := G16.binds (ps := ["part"]) fun _ _ _ _ _ _ us hl => match us, hl with | [_], _ => rfl
  have F_law_plain : FunAt K mg "_law_plain" s_law_plain ["part"] := ⟨_, _, PySem.W.mg_of X G a16, G16, B16⟩
  have G17 := fun_mk (st := s_law_lots) l17 c17 k17
  have B17 := G17.binds (ps := ["things"]) fun _ _ _ _ _ _ us hl => match us, hl with | [_], _ => rfl
  have F_law_lots : FunAt K mg "_law_lots" s_law_lots ["things"] := ⟨_, _, PySem.W.mg_of X G a17, G17, B17⟩
  have G18 := fun_mk (st := s_law_changed) l18 c18 k18
  have B18 := G18.binds (ps := ["pool", "tree", "many"]) fun _ _ _ _ _ _ us hl => match us, hl with | [_, _, _], _ => rfl
  have F_law_changed : FunAt K mg "_law_changed" s_law_changed ["pool", "tree", "many"] := ⟨_, _, PySem.W.mg_of X G a18, G18, B18⟩
  have G19 := fun_mk (st := s_law) l19 c19 k19
  have B19 := G19.binds (ps := ["script"]) fun _ _ _ _ _ _ us hl => match us, hl with | [_], _ => rfl
  have F_law : FunAt K mg "law" s_law ["script"] := ⟨_, _, PySem.W.mg_of X G a19, G19, B19⟩
  have T : Txt K mg CH := ⟨cl_Hitter, z_f_sets, z_f_prices, z_f_best, z_f_least, z_f_nodes, PySem.W.mg_none_of X G z_n_sum, PySem.W.mg_none_of X G z_n_any, PySem.W.mg_none_of X G z_n_min, PySem.W.mg_none_of X G z_n_enumerate, PySem.W.mg_none_of X G z_n_list, PySem.W.mg_none_of X G z_n_tuple, PySem.W.mg_none_of X G z_n_sorted, PySem.W.mg_none_of X G z_n_len, PySem.W.mg_none_of X G z_n_range, PySem.W.mg_none_of X G z_n_dict, PySem.W.mg_none_of X G z_n_set, PySem.W.mg_none_of X G z_n_int, PySem.W.mg_none_of X G z_n_all, PySem.W.mg_none_of X G z_n_isinstance, PySem.W.mg_none_of X G z_n_str, PySem.W.mg_none_of X G z_n_bool, ⟨_, PySem.W.mg_of X G z_g_MOST_NODES⟩⟩
  refine ⟨PySem.W.fnOf "law" "law" (defArgs s_law) (defBody s_law) (defScope s_law) .none kV19 dc19 pm19 an19 cd19 ct19, fun s v => .of_eq rfl, fun base _ _ => ?_⟩
  have F_law0 := G19
  have h_cost := c_cost (P := PySem.Challenge.rw_coresprice_k73_whole_things_that_are_hit.prog) (w := w) (base := base) F_Hitter_cost T
  have h_floor := c_floor F_Hitter_floor T h_cost
  have h_missed := c_missed (P := PySem.Challenge.rw_coresprice_k73_whole_things_that_are_hit.prog) (w := w) (base := base) F_Hitter_missed T
  have h_ordered := c_ordered (P := PySem.Challenge.rw_coresprice_k73_whole_things_that_are_hit.prog) (w := w) (base := base) F_Hitter_ordered T
  have h_go := c_go_on F_Hitter_go_on T h_cost h_floor h_missed h_ordered 11
  have h_tree := c_tree F_Hitter_tree T h_cost h_missed h_ordered 11
  have h_init := c_Hitter (P := PySem.Challenge.rw_coresprice_k73_whole_things_that_are_hit.prog) (w := w) (base := base) F_Hitter_init T
  have h_are := c_are_sets (P := PySem.Challenge.rw_coresprice_k73_whole_things_that_are_hit.prog) (w := w) (base := base) F_are_sets T
  have h_cheap := c_cheapest_hit F_cheapest_hit T h_are h_init h_go
  have h_htree := c_hit_tree F_hit_tree T h_init h_tree
  have h_right := c_tree_right (P := PySem.Challenge.rw_coresprice_k73_whole_things_that_are_hit.prog) (w := w) (base := base) F_tree_right T
  have h_hits := c_law_hits (P := PySem.Challenge.rw_coresprice_k73_whole_things_that_are_hit.prog) (w := w) (base := base) F_law_hits T
  have h_pool := c_law_pool (P := PySem.Challenge.rw_coresprice_k73_whole_things_that_are_hit.prog) (w := w) (base := base) F_law_pool T
  have h_draw := c_law_draw (P := PySem.Challenge.rw_coresprice_k73_whole_things_that_are_hit.prog) (w := w) (base := base) F_law_draw T
  have h_same := c_law_same' (P := PySem.Challenge.rw_coresprice_k73_whole_things_that_are_hit.prog) (w := w) (base := base) F_law_same T (cal_no F_law_same fun _ _ z => z)
  have h_plain := c_law_plain (P := PySem.Challenge.rw_coresprice_k73_whole_things_that_are_hit.prog) (w := w) (base := base) F_law_plain T 40
  have h_lots := c_law_lots (P := PySem.Challenge.rw_coresprice_k73_whole_things_that_are_hit.prog) (w := w) (base := base) F_law_lots T
  have h_chg := c_law_changed F_law_changed T h_draw 18
  exact b_law F_law0 T h_pool h_draw h_same h_hits h_plain h_lots h_chg h_cheap h_htree h_right
theorem law_hsp (K : PySem.W.Frag) (H : Hp) (a : Addr) (ns : List Int) (hn : ns.length ≤ 63) (hS : SqL K H a (ns.map V.int)) : spD K ct_law [.ref a] H (fun v _ => v = .bl true) fun _ _ _ => False := by
  refine ⟨[.q ns], fun d _ => d = .bl true, H, fun _ => none, ⟨ns, rfl, rfl⟩, ⟨rfl, fun a o h => (by cases h), Ex.refl _, fun i m h => ?_, fun i j x y hx hy ox oy e => ?_, fun i hi => (by cases hi)⟩, fun d S' v H0' H' hd _ _ hp => (by subst hd; exact hp)⟩
  · match i, h with
    | 0, h => cases h; exact ⟨_, rfl, a, rfl, hS⟩
  · match i, hx with
    | 0, hx => cases hx; cases ox
end K73
open PySem PySem.W PyProof.Rows
set_option maxRecDepth 100000 in
set_option maxHeartbeats 0 in
theorem PySem.Challenge.cw_coresprice_k73_whole_things_that_are_hit_holds : PySem.Challenge.rw_coresprice_k73_whole_things_that_are_hit.Holds := by
  w_on; o_law; k_head; (case hw => w_witness2)
  k_fill
  refine L2.walk_of (l := PySem.Challenge.rw_coresprice_k73_whole_things_that_are_hit) (n := 63) (k := 41) (x := "script") (CX := fun _ => L2.CX0) (sp := fun w => Dl.spD _ K73.ct_law) rfl (by decide) rfl ⟨rfl, by decide, by decide⟩ (fun w h Y => PySem.W.kIn_of Y) ?F (fun _ _ a ns hl _ hS => K73.law_hsp _ _ a ns hl hS) (fun _ _ _ _ _ h => h)
  case F =>
    intro w mg fa h KX G hmg
    refine' K73.all_mk KX G hmg ?cA_Hitter ?pg_Hitter ?hd_Hitter ?po_Hitter ?sa_Hitter ?mk_Hitter ?kc_Hitter ?a1 ?i1 ?l1 ?c1 ?k1 ?a2 ?i2 ?l2 ?c2 ?k2 ?a3 ?i3 ?l3 ?c3 ?k3 ?a4 ?i4 ?l4 ?c4 ?k4 ?a5 ?i5 ?l5 ?c5 ?k5 ?a6 ?i6 ?l6 ?c6 ?k6 ?a7 ?i7 ?l7 ?c7 ?k7 ?a8 ?l8 ?c8 ?k8 ?a9 ?l9 ?c9 ?k9 ?a10 ?l10 ?c10 ?k10 ?a11 ?l11 ?c11 ?k11 ?a12 ?l12 ?c12 ?k12 ?a13 ?l13 ?c13 ?k13 ?a14 ?l14 ?c14 ?k14 ?a15 ?l15 ?c15 ?k15 ?a16 ?l16 ?c16 ?k16 ?a17 ?l17 ?c17 ?k17 ?a18 ?l18 ?c18 ?k18 ?a19 ?l19 ?c19 ?k19 ?z_f_sets ?z_f_prices ?z_f_best ?z_f_least ?z_f_nodes ?z_n_sum ?z_n_any ?z_n_min ?z_n_enumerate ?z_n_list ?z_n_tuple ?z_n_sorted ?z_n_len ?z_n_range ?z_n_dict ?z_n_set ?z_n_int ?z_n_all ?z_n_isinstance ?z_n_str ?z_n_bool ?z_g_MOST_NODES
    (case cA_Hitter => k_is)
    (case pg_Hitter => k_is)
    (case hd_Hitter => k_is)
    (case po_Hitter => k_is)
    (case sa_Hitter => k_is)
    (case mk_Hitter => k_is)
    (case kc_Hitter => k_is)
    (case a1 => k_is)
    (case i1 => k_is)
    (case l1 => k_is)
    (case c1 => k_is)
    (case k1 => k_is)
    (case a2 => k_is)
    (case i2 => k_is)
    (case l2 => k_is)
    (case c2 => k_is)
    (case k2 => k_is)
    (case a3 => k_is)
    (case i3 => k_is)
    (case l3 => k_is)
    (case c3 => k_is)
    (case k3 => k_is)
    (case a4 => k_is)
    (case i4 => k_is)
    (case l4 => k_is)
    (case c4 => k_is)
    (case k4 => k_is)
    (case a5 => k_is)
    (case i5 => k_is)
    (case l5 => k_is)
    (case c5 => k_is)
    (case k5 => k_is)
    (case a6 => k_is)
    (case i6 => k_is)
    (case l6 => k_is)
    (case c6 => k_is)
    (case k6 => k_is)
    (case a7 => k_is)
    (case i7 => k_is)
    (case l7 => k_is)
    (case c7 => k_is)
    (case k7 => k_is)
    (case a8 => k_is)
    (case l8 => k_is)
    (case c8 => k_is)
    (case k8 => k_is)
    (case a9 => k_is)
    (case l9 => k_is)
    (case c9 => k_is)
    (case k9 => k_is)
    (case a10 => k_is)
    (case l10 => k_is)
    (case c10 => k_is)
    (case k10 => k_is)
    (case a11 => k_is)
    (case l11 => k_is)
    (case c11 => k_is)
    (case k11 => k_is)
    (case a12 => k_is)
    (case l12 => k_is)
    (case c12 => k_is)
    (case k12 => k_is)
    (case a13 => k_is)
    (case l13 => k_is)
    (case c13 => k_is)
    (case k13 => k_is)
    (case a14 => k_is)
    (case l14 => k_is)
    (case c14 => k_is)
    (case k14 => k_is)
    (case a15 => k_is)
    (case l15 => k_is)
    (case c15 => k_is)
    (case k15 => k_is)
    (case a16 => k_is)
    (case l16 => k_is)
    (case c16 => k_is)
    (case k16 => k_is)
    (case a17 => k_is)
    (case l17 => k_is)
    (case c17 => k_is)
    (case k17 => k_is)
    (case a18 => k_is)
    (case l18 => k_is)
    (case c18 => k_is)
    (case k18 => k_is)
    (case a19 => k_is)
    (case l19 => k_is)
    (case c19 => k_is)
    (case k19 => k_is)
    (case z_f_sets => k_is)
    (case z_f_prices => k_is)
    (case z_f_best => k_is)
    (case z_f_least => k_is)
    (case z_f_nodes => k_is)
    (case z_n_sum => k_is)
    (case z_n_any => k_is)
    (case z_n_min => k_is)
    (case z_n_enumerate => k_is)
    (case z_n_list => k_is)
    (case z_n_tuple => k_is)
    (case z_n_sorted => k_is)
    (case z_n_len => k_is)
    (case z_n_range => k_is)
    (case z_n_dict => k_is)
    (case z_n_set => k_is)
    (case z_n_int => k_is)
    (case z_n_all => k_is)
    (case z_n_isinstance => k_is)
    (case z_n_str => k_is)
    (case z_n_bool => k_is)
    (case z_g_MOST_NODES => k_is)
