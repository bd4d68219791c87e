import PyProof.Rows.All
import Wide.All
import OpenK.AllK
import Wide.FinOn
import HandS.ForMost
import HandS.Exc
import HandS.ExcOwn
import HandS.WordsExc
import HandS.CallSlots
import HandS.TupAny
import HandS.TupMul
import HandS.Style
import HandS.IsInst
import HandS.Star
import HandS.Iter
import HandS.Comp
import HandS.Conv
import HandS.Defaults
import PySem.Challenge.RW_provenruns_k26_values_and_bare_ones
set_option Elab.async false
set_option linter.all false
set_option maxRecDepth 100000
set_option maxHeartbeats 4000000
set_option autoImplicit false
/-! L3: judgements over data without a heap, on the hand layer -/
namespace L3
open PySem PySem.Spec PyProof.Rows L2
abbrev St := L2.St

theorem ofS_inj {a b : String} : (Str.ofString a = Str.ofString b) = (a = b) := by
  apply propext
  constructor
  · intro h
    rw [Str.ofString_eq_toList, Str.ofString_eq_toList] at h
    have h1 := congrArg (fun s : Str => s.cps.toList) h
    simp only at h1
    have h2 : a.toList.map Char.toNat = b.toList.map Char.toNat := by simpa using h1
    have h3 : a.toList = b.toList := by
      have inj : ∀ l m : List Char, l.map Char.toNat = m.map Char.toNat → l = m := by
        intro l
        induction l with
        | nil => intro m h; cases m with
          | nil => rfl
          | cons _ _ => simp at h
        | cons x l ih => intro m h; cases m with
          | nil => simp at h
          | cons y m =>
            simp only [List.map_cons, List.cons.injEq] at h
            rw [ih m h.2, Char.toNat_inj.mp h.1]
      exact inj _ _ h2
    exact String.toList_inj.mp h3
  · intro h; rw [h]

/-! ### data -/
inductive D where
  | non | bl (b : Bool) | int (i : Int) | str (x : Str)
  | tup (xs : List D) | lst (xs : List D)
  | dct (ks : List Key) (xs : List D)
  | ins (C : Addr) (fs : List Str) (xs : List D)

mutual
inductive RepD (K : PySem.W.Frag) (G : Hp) : D → V → Prop
  | non : RepD K G .non .non
  | bl (b : Bool) : RepD K G (.bl b) (.bl b)
  | int (i : Int) : RepD K G (.int i) (.int i)
  | str (x : Str) : RepD K G (.str x) (.str x)
  | tup {a : Addr} {vs : List V} {ds : List D} : SqT K G a vs → RepDs K G ds vs → RepD K G (.tup ds) (.ref a)
  | lst {a : Addr} {vs : List V} {ds : List D} : G a = some (.lst vs) → RepDs K G ds vs → RepD K G (.lst ds) (.ref a)
  | dct {a : Addr} {ks : List Key} {vs : List V} {ds : List D} : G a = some (.dK (ks.zip vs)) → ks.length = vs.length → RepDs K G ds vs → RepD K G (.dct ks ds) (.ref a)
  | ins {a C dx : Addr} {fs : List Str} {vs : List V} {ds : List D} : fs ≠ [("[]" : Str)] → G a = some (.ins C dx (fs.zip vs)) → fs.length = vs.length → RepDs K G ds vs → RepD K G (.ins C fs ds) (.ref a)
  | scr {a : Addr} {vs : List V} {ds : List D} : SqL K G a vs → RepDs K G ds vs → RepD K G (.ins 0 ["[]"] ds) (.ref a)
inductive RepDs (K : PySem.W.Frag) (G : Hp) : List D → List V → Prop
  | nil : RepDs K G [] []
  | cons {d : D} {v : V} {ds : List D} {vs : List V} : RepD K G d v → RepDs K G ds vs → RepDs K G (d :: ds) (v :: vs)
end

/-- the script as data: a list that nobody changes -/
def scrD (xs : List D) : D := .ins 0 ["[]"] xs
theorem _root_.L2.Rd.same {H H' : Hp} {a : Addr} {u : HO} (h : Rd H a u) (e : Same H H') : Rd H' a u := by
  rcases h with h | ⟨o, h⟩
  · exact .inl (e _ _ h)
  · exact .inr ⟨o, e _ _ h⟩
theorem Same.seqL {K : PySem.W.Frag} {H H' : Hp} {a : Addr} {xs : List V} (e : Same H H') (h : SqL K H a xs) : SqL K H' a xs := by
  rcases h with h | h
  · exact .inl (h.same e)
  · exact .inr h
theorem Same.seqT {K : PySem.W.Frag} {H H' : Hp} {a : Addr} {xs : List V} (e : Same H H') (h : SqT K H a xs) : SqT K H' a xs := by
  rcases h with (h | ⟨o, h⟩) | h
  · exact .inl (.inl (e _ _ h))
  · exact .inl (.inr ⟨o, e _ _ h⟩)
  · exact .inr h

section
variable {K : PySem.W.Frag} {G G' : Hp}
mutual
theorem RepD.mono (s : Same G G') : ∀ {d : D} {v : V}, RepD K G d v → RepD K G' d v
  | _, _, .non => .non
  | _, _, .bl b => .bl b
  | _, _, .int i => .int i
  | _, _, .str x => .str x
  | _, _, .tup h r => .tup (Same.seqT s h) (RepDs.mono s r)
  | _, _, .lst h r => .lst (s _ _ h) (RepDs.mono s r)
  | _, _, .dct h l r => .dct (s _ _ h) l (RepDs.mono s r)
  | _, _, .ins n h l r => .ins n (s _ _ h) l (RepDs.mono s r)
  | _, _, .scr h r => .scr (Same.seqL s h) (RepDs.mono s r)
theorem RepDs.mono (s : Same G G') : ∀ {ds : List D} {vs : List V}, RepDs K G ds vs → RepDs K G' ds vs
  | _, _, .nil => .nil
  | _, _, .cons h r => .cons (RepD.mono s h) (RepDs.mono s r)
end
theorem RepDs.length : ∀ {ds : List D} {vs : List V}, RepDs K G ds vs → ds.length = vs.length
  | _, _, .nil => rfl
  | _, _, .cons _ r => by simp [RepDs.length r]
theorem RepDs.get : ∀ {ds : List D} {vs : List V} {i : Nat} {v : V}, RepDs K G ds vs → vs[i]? = some v → ∃ d, ds[i]? = some d ∧ RepD K G d v
  | _, _, i, _, .nil, e => by simp at e
  | _, _, 0, _, .cons h _, e => by simp at e; subst e; exact ⟨_, rfl, h⟩
  | _, _, i + 1, _, .cons _ r, e => by simpa using RepDs.get (i := i) r (by simpa using e)
theorem RepDs.get' : ∀ {ds : List D} {vs : List V} {i : Nat} {d : D}, RepDs K G ds vs → ds[i]? = some d → ∃ v, vs[i]? = some v ∧ RepD K G d v
  | _, _, i, _, .nil, e => by simp at e
  | _, _, 0, _, .cons h _, e => by simp at e; subst e; exact ⟨_, rfl, h⟩
  | _, _, i + 1, _, .cons _ r, e => by simpa using RepDs.get' (i := i) r (by simpa using e)
theorem RepDs.append : ∀ {ds es : List D} {vs us : List V}, RepDs K G ds vs → RepDs K G es us → RepDs K G (ds ++ es) (vs ++ us)
  | _, _, _, _, .nil, s => s
  | _, _, _, _, .cons h r, s => .cons h (RepDs.append r s)
theorem RepDs.take : ∀ {ds : List D} {vs : List V} (n : Nat), RepDs K G ds vs → RepDs K G (ds.take n) (vs.take n)
  | _, _, 0, _ => .nil
  | _, _, _ + 1, .nil => .nil
  | _, _, n + 1, .cons h r => .cons h (RepDs.take n r)
theorem RepDs.drop : ∀ {ds : List D} {vs : List V} (n : Nat), RepDs K G ds vs → RepDs K G (ds.drop n) (vs.drop n)
  | _, _, 0, r => r
  | _, _, _ + 1, .nil => .nil
  | _, _, n + 1, .cons _ r => RepDs.drop n r
theorem RepDs.reverse : ∀ {ds : List D} {vs : List V}, RepDs K G ds vs → RepDs K G ds.reverse vs.reverse
  | _, _, .nil => .nil
  | _, _, .cons h r => by
    rw [List.reverse_cons, List.reverse_cons]
    exact RepDs.append (RepDs.reverse r) (.cons h .nil)
theorem RepDs.set {d : D} {v : V} (h : RepD K G d v) : ∀ {ds : List D} {vs : List V} (i : Nat), RepDs K G ds vs → RepDs K G (ds.set i d) (vs.set i v)
  | _, _, _, .nil => .nil
  | _, _, 0, .cons _ r => .cons h r
  | _, _, i + 1, .cons q r => .cons q (RepDs.set h i r)
theorem RepDs.eraseIdx : ∀ {ds : List D} {vs : List V} (i : Nat), RepDs K G ds vs → RepDs K G (ds.eraseIdx i) (vs.eraseIdx i)
  | _, _, _, .nil => .nil
  | _, _, 0, .cons _ r => r
  | _, _, i + 1, .cons q r => .cons q (RepDs.eraseIdx i r)
end

/-! ### slots -/
inductive S where
  | no
  | d (x : D)
  | ol (xs : List D)
  | od (ks : List Key) (xs : List D)
  | well (n : Nat)
  | wl (xs : List D)
def S.own : S → Bool
  | .no => false
  | .d _ => false
  | _ => true
def S.fixd : S → Bool
  | .well _ => true
  | .wl _ => true
  | _ => false

theorem S.own_of_fixd : ∀ {s : S}, s.fixd = true → s.own = true
  | .well _, _ => rfl
  | .wl _, _ => rfl
/-- what the well looks like: its cells, how many were begun (at most n), what is left -/
def WellAt (K : PySem.W.Frag) (G H : Hp) (a : Addr) (n : Nat) : Prop :=
  ∃ (c : Addr) (cs : List Int) (t r : Int), H a = some (.lst [.ref c, .int t, .int r]) ∧ G c = some (.lst (cs.map V.int)) ∧ cs.length ≤ 60 ∧ 0 ≤ t ∧ t ≤ n ∧ 0 ≤ r

def SlotR (K : PySem.W.Frag) (G H : Hp) : S → Option V → Prop
  | .no, _ => True
  | .d x, ov => ∃ v, ov = some v ∧ RepD K G x v
  | .ol xs, ov => ∃ a vs, ov = some (.ref a) ∧ H a = some (.lst vs) ∧ RepDs K G xs vs
  | .od ks xs, ov => ∃ a vs, ov = some (.ref a) ∧ H a = some (.dK (ks.zip vs)) ∧ ks.length = vs.length ∧ RepDs K G xs vs
  | .well n, ov => ∃ a, ov = some (.ref a) ∧ WellAt K G H a n
  | .wl xs, ov => ∃ a vs, ov = some (.ref a) ∧ H a = some (.lst vs) ∧ RepDs K G xs vs

/-- an activation's constants: the heap at its entry, the frozen part, the addresses that are handed by reference -/
structure C0 where
  H0 : Hp
  G0 : Hp
  ad : Nat → Option Addr
  n : Nat
def C0.rf (c : C0) (a : Addr) : Prop := ∃ i, c.ad i = some a

def OwnAt (σ : St) (e : List S) (a : Addr) : Prop := ∃ (i : Nat) (s : S), e[i]? = some s ∧ s.own = true ∧ σ[i]? = some (some (V.ref a))

structure Rel (K : PySem.W.Frag) (c : C0) (G H : Hp) (σ : St) (e : List S) : Prop where
  len : σ.length = e.length
  sl : ∀ (i : Nat) (s : S), e[i]? = some s → SlotR K G H s (σ[i]?).join
  gh : Same G H
  keep : ∀ a o, c.H0 a = some o → ¬ c.rf a → H a = some o
  gsub : Same c.G0 G
  gnew : ∀ a, G a ≠ none → c.G0 a ≠ none ∨ c.H0 a = none
  own : ∀ a, OwnAt σ e a → G a = none ∧ (c.H0 a = none ∨ c.rf a)
  inj : ∀ (i j : Nat) (s t : S) (a : Addr), e[i]? = some s → e[j]? = some t → s.own = true → t.own = true → σ[i]? = some (some (V.ref a)) → σ[j]? = some (some (V.ref a)) → i = j
  rfs : ∀ (i : Nat) (a : Addr), c.ad i = some a → σ[i]? = some (some (V.ref a)) ∧ ∃ s : S, e[i]? = some s ∧ s.fixd = true
  ln : e.length = c.n

structure Step (K : PySem.W.Frag) (c : C0) (σ : St) (G H : Hp) (e : List S) (G' H' : Hp) (e' : List S) : Prop where
  rel : Rel K c G' H' σ e'
  sg : Same G G'
  fr : ∀ a o, H a = some o → ¬ OwnAt σ e a → H' a = some o
  gn : ∀ a, G' a ≠ none → G a ≠ none ∨ H a = none ∨ OwnAt σ e a
  ow : ∀ a, OwnAt σ e' a → OwnAt σ e a
  th : ∀ a, H a ≠ none → H' a ≠ none
section
variable {K : PySem.W.Frag} {c : C0} {σ : St} {G H G1 H1 G2 H2 : Hp} {e e1 e2 : List S}
theorem Step.refl (r : Rel K c G H σ e) : Step K c σ G H e G H e := ⟨r, Same.refl _, fun _ _ h _ => h, fun _ h => .inl h, fun _ h => h, fun _ h => h⟩
theorem Step.trans (r : Rel K c G H σ e) (a : Step K c σ G H e G1 H1 e1) (b : Step K c σ G1 H1 e1 G2 H2 e2) : Step K c σ G H e G2 H2 e2 where
  rel := b.rel
  sg := a.sg.trans b.sg
  fr := fun x o h n => b.fr x o (a.fr x o h n) fun z => n (a.ow x z)
  gn := fun x h => by
    rcases b.gn x h with q | q | q
    · exact a.gn x q
    · by_cases z : OwnAt σ e x
      · exact .inr (.inr z)
      · cases hx : H x with
        | none => exact .inr (.inl rfl)
        | some o => rw [a.fr x o hx z] at q; cases q
    · exact .inr (.inr (a.ow x q))
  ow := fun x h => a.ow x (b.ow x h)
  th := fun x h => b.th x (a.th x h)
end

/-- what an expression gives: data; what stands in a slot of one's own; a new list (a new dict) -/
inductive R where
  | d (x : D)
  | sl (i : Nat)
  | tl (xs : List D)
  | td (ks : List Key) (xs : List D)
  | tw (n : Nat)
def RepR (K : PySem.W.Frag) (Hs G H : Hp) (σ : St) (e : List S) : R → V → Prop
  | .d x, v => RepD K G x v
  | .sl i, v => σ[i]? = some (some v)
  | .tl xs, v => ∃ a vs, v = .ref a ∧ H a = some (.lst vs) ∧ RepDs K G xs vs ∧ G a = none ∧ Hs a = none ∧ ¬ OwnAt σ e a
  | .td ks xs, v => ∃ a vs, v = .ref a ∧ H a = some (.dK (ks.zip vs)) ∧ ks.length = vs.length ∧ RepDs K G xs vs ∧ G a = none ∧ Hs a = none ∧ ¬ OwnAt σ e a
  | .tw n, v => ∃ a, v = .ref a ∧ WellAt K G H a n ∧ G a = none ∧ Hs a = none ∧ ¬ OwnAt σ e a
def see (e : List S) : R → Option D
  | .d x => some x
  | .tl xs => some (.lst xs)
  | .td ks xs => some (.dct ks xs)
  | .tw _ => none
  | .sl i => match e[i]? with
    | some (.d x) => some x
    | some (.ol xs) => some (.lst xs)
    | some (.od ks xs) => some (.dct ks xs)
    | _ => none
/-- behind a use as data -/
def fz (e : List S) : R → List S
  | .sl i => match e[i]? with
    | some (.ol xs) => e.set i (.d (.lst xs))
    | some (.od ks xs) => e.set i (.d (.dct ks xs))
    | _ => e
  | _ => e
/-- data at a value, its top perhaps one's own -/
def DV (K : PySem.W.Frag) (G H : Hp) (d : D) (v : V) : Prop :=
  RepD K G d v ∨ (∃ a vs xs, d = .lst xs ∧ v = .ref a ∧ H a = some (.lst vs) ∧ RepDs K G xs vs) ∨ (∃ a ks vs xs, d = .dct ks xs ∧ v = .ref a ∧ H a = some (.dK (ks.zip vs)) ∧ ks.length = vs.length ∧ RepDs K G xs vs)

section
variable {K : PySem.W.Frag} {c : C0} {σ : St} {Hs G H G1 H1 G2 H2 : Hp} {e e1 e2 : List S} {ρ : R} {v : V} {d : D}
theorem WellAt.mono {G' H' : Hp} {a : Addr} {n : Nat} (s : Same G G') (h : ∀ o, H a = some o → H' a = some o) (w : WellAt K G H a n) : WellAt K G' H' a n := by
  obtain ⟨c, cs, t, r, h1, h2, q⟩ := w
  exact ⟨c, cs, t, r, h _ h1, s _ _ h2, q⟩
theorem WellAt.le {a : Addr} {n m : Nat} (l : n ≤ m) (w : WellAt K G H a n) : WellAt K G H a m := by
  obtain ⟨c, cs, t, r, h1, h2, h3, h4, h5, h6⟩ := w
  exact ⟨c, cs, t, r, h1, h2, h3, h4, by omega, h6⟩
/-- a result is kept through a step -/
theorem RepR.step (st : Step K c σ G H e G1 H1 e1) (r : RepR K Hs G H σ e ρ v) : RepR K Hs G1 H1 σ e1 ρ v := by
  cases ρ with
  | d x => exact RepD.mono st.sg r
  | sl i => exact r
  | tl xs =>
    obtain ⟨a, vs, rfl, h1, h2, h3, h4, h5⟩ := r
    refine ⟨a, vs, rfl, st.fr a _ h1 h5, RepDs.mono st.sg h2, ?_, h4, fun z => h5 (st.ow a z)⟩
    cases q : G1 a with
    | none => rfl
    | some o =>
      rcases st.gn a (by rw [q]; simp) with z | z | z
      · exact absurd h3 z
      · rw [h1] at z; cases z
      · exact absurd z h5
  | td ks xs =>
    obtain ⟨a, vs, rfl, h1, hl, h2, h3, h4, h5⟩ := r
    refine ⟨a, vs, rfl, st.fr a _ h1 h5, hl, RepDs.mono st.sg h2, ?_, h4, fun z => h5 (st.ow a z)⟩
    cases q : G1 a with
    | none => rfl
    | some o =>
      rcases st.gn a (by rw [q]; simp) with z | z | z
      · exact absurd h3 z
      · rw [h1] at z; cases z
      · exact absurd z h5
  | tw n =>
    obtain ⟨a, rfl, h1, h3, h4, h5⟩ := r
    obtain ⟨o, ho⟩ : ∃ o, H a = some o := by obtain ⟨c, cs, t, r, z, _⟩ := h1; exact ⟨_, z⟩
    refine ⟨a, rfl, h1.mono st.sg fun o h => st.fr a _ h h5, ?_, h4, fun z => h5 (st.ow a z)⟩
    cases q : G1 a with
    | none => rfl
    | some o =>
      rcases st.gn a (by rw [q]; simp) with z | z | z
      · exact absurd h3 z
      · rw [ho] at z; cases z
      · exact absurd z h5
theorem Rel.slot (r : Rel K c G H σ e) {i : Nat} {s : S} {v : V} (h : e[i]? = some s) (hv : σ[i]? = some (some v)) : SlotR K G H s (some v) := by
  have q := r.sl i s h
  rw [hv] at q
  exact q
/-- a result seen as data -/
theorem RepR.see (rl : Rel K c G H σ e) (r : RepR K Hs G H σ e ρ v) (h : see e ρ = some d) : DV K G H d v := by
  cases ρ with
  | d x => cases h; exact .inl r
  | tl xs => cases h; obtain ⟨a, vs, rfl, h1, h2, _⟩ := r; exact .inr (.inl ⟨a, vs, xs, rfl, rfl, h1, h2⟩)
  | td ks xs => cases h; obtain ⟨a, vs, rfl, h1, hl, h2, _⟩ := r; exact .inr (.inr ⟨a, ks, vs, xs, rfl, rfl, h1, hl, h2⟩)
  | tw n => cases h
  | sl i =>
    have r' : σ[i]? = some (some v) := r
    simp only [L3.see] at h
    cases es : e[i]? with
    | none => rw [es] at h; cases h
    | some s =>
      rw [es] at h
      have q := rl.slot es r'
      cases s with
      | no => cases h
      | well n => cases h
      | wl _ => cases h
      | d x =>
        cases h
        obtain ⟨w, hw, k⟩ := q
        cases hw
        exact .inl k
      | ol xs =>
        cases h
        obtain ⟨a, vs, hw, k1, k2⟩ := q
        cases hw
        exact .inr (.inl ⟨a, vs, xs, rfl, rfl, k1, k2⟩)
      | od ks xs =>
        cases h
        obtain ⟨a, vs, hw, k1, k2, k3⟩ := q
        cases hw
        exact .inr (.inr ⟨a, ks, vs, xs, rfl, rfl, k1, k2, k3⟩)
/-- the beginning moved ahead -/
theorem RepR.back {G0 H0 : Hp} {e0 : List S} (st : Step K c σ G0 H0 e0 G H e) {G1 H1 : Hp} {e1 : List S} (r : RepR K H G1 H1 σ e1 ρ v) : RepR K H0 G1 H1 σ e1 ρ v := by
  have k : ∀ a, H a = none → H0 a = none := fun a h => by
    cases q : H0 a with
    | none => rfl
    | some o => exact absurd h (st.th a (by rw [q]; simp))
  cases ρ with
  | d x => exact r
  | sl i => exact r
  | tl xs => obtain ⟨a, vs, q1, q2, q3, q4, q5, q6⟩ := r; exact ⟨a, vs, q1, q2, q3, q4, k _ q5, q6⟩
  | td ks xs => obtain ⟨a, vs, q1, q2, ql, q3, q4, q5, q6⟩ := r; exact ⟨a, vs, q1, q2, ql, q3, q4, k _ q5, q6⟩
  | tw n => obtain ⟨a, q1, q2, q4, q5, q6⟩ := r; exact ⟨a, q1, q2, q4, k _ q5, q6⟩
end

/-! ### how the state changes -/
section
variable {K : PySem.W.Frag} {c : C0} {σ : St} {Hs G H G1 H1 G2 H2 : Hp} {e e1 e2 : List S} {ρ : R} {v : V} {d : D} {a p : Addr}
theorem SlotR.mono {s : S} {ov : Option V} (sg : Same G G1) (sh : ∀ b o, s.own = true → ov = some (.ref b) → H b = some o → H1 b = some o) (r : SlotR K G H s ov) : SlotR K G1 H1 s ov := by
  cases s with
  | no => trivial
  | d x => obtain ⟨v, h, q⟩ := r; exact ⟨v, h, RepD.mono sg q⟩
  | ol xs => obtain ⟨b, vs, h, h1, h2⟩ := r; exact ⟨b, vs, h, sh b _ rfl h h1, RepDs.mono sg h2⟩
  | od ks xs => obtain ⟨b, vs, h, h1, hl, h2⟩ := r; exact ⟨b, vs, h, sh b _ rfl h h1, hl, RepDs.mono sg h2⟩
  | well n => obtain ⟨b, h, h1⟩ := r; exact ⟨b, h, h1.mono sg fun o z => sh b o rfl h z⟩
  | wl xs => obtain ⟨b, vs, h, h1, h2⟩ := r; exact ⟨b, vs, h, sh b _ rfl h h1, RepDs.mono sg h2⟩
theorem SlotR.own_in {s : S} {b : Addr} (ho : s.own = true) (r : SlotR K G H s (some (.ref b))) : ∃ o, H b = some o := by
  cases s with
  | no => cases ho
  | d x => cases ho
  | ol xs => obtain ⟨a, vs, h, h1, _⟩ := r; cases h; exact ⟨_, h1⟩
  | od ks xs => obtain ⟨a, vs, h, h1, _⟩ := r; cases h; exact ⟨_, h1⟩
  | well n => obtain ⟨a, h, c, cs, t, r, h1, _⟩ := r; cases h; exact ⟨_, h1⟩
  | wl xs => obtain ⟨a, vs, h, h1, _⟩ := r; cases h; exact ⟨_, h1⟩
theorem OwnAt.there (r : Rel K c G H σ e) (h : OwnAt σ e a) : ∃ o, H a = some o := by
  obtain ⟨i, s, h1, h2, h3⟩ := h
  exact (r.slot h1 h3).own_in h2
theorem Rel.fresh0 (r : Rel K c G H σ e) (h : H p = none) : c.H0 p = none := by
  cases q : c.H0 p with
  | none => rfl
  | some o =>
    by_cases z : c.rf p
    · obtain ⟨i, hi⟩ := z
      obtain ⟨h1, s, h2, h3⟩ := r.rfs i p hi
      obtain ⟨o', ho⟩ := OwnAt.there r ⟨i, s, h2, S.own_of_fixd h3, h1⟩
      rw [h] at ho; cases ho
    · rw [r.keep p o q z] at h; cases h
theorem Rel.freshG (r : Rel K c G H σ e) (h : H p = none) : G p = none := r.gh.free h
theorem Rel.freshO (r : Rel K c G H σ e) (h : H p = none) : ¬ OwnAt σ e p := fun z => by
  obtain ⟨o, ho⟩ := OwnAt.there r z
  rw [h] at ho; cases ho
/-- the heap grows -/
theorem Step.ext (r : Rel K c G H σ e) (hH : Same H H1) (hG : Same G G1) (hGH : Same G1 H1) (hn : ∀ a, G1 a ≠ none → G a ≠ none ∨ H a = none) : Step K c σ G H e G1 H1 e where
  rel := ⟨r.len, fun i s h => (r.sl i s h).mono hG fun b o _ _ z => hH b o z, hGH, fun a o h n => hH a o (r.keep a o h n), r.gsub.trans hG,
    fun a h => (hn a h).elim (fun z => r.gnew a z) fun z => .inr (r.fresh0 z),
    fun a h => ⟨by
      cases q : G1 a with
      | none => rfl
      | some o =>
        rcases hn a (by rw [q]; simp) with z | z
        · exact absurd (r.own a h).1 z
        · exact absurd h (r.freshO z), (r.own a h).2⟩, r.inj, r.rfs, r.ln⟩
  sg := hG
  fr := fun a o h _ => hH a o h
  gn := fun a h => (hn a h).elim .inl fun z => .inr (.inl z)
  ow := fun a h => h
  th := fun a h => by
    cases q : H a with
    | none => exact absurd q h
    | some o => rw [hH a o q]; simp
theorem same_upd {H : Hp} {p : Addr} {o : HO} (h : H p = none) : Same H (upd H p o) := fun b u e => by rw [upd_ne (ne_of_none e h)]; exact e
theorem same_upd2 {G H : Hp} {p : Addr} {o : HO} (s : Same G H) : Same (upd G p o) (upd H p o) := fun b u e => by
  by_cases z : b = p
  · subst z; rw [upd_same] at e ⊢; exact e
  · rw [upd_ne z] at e ⊢; exact s b u e

/-- how a result comes: known data, a new list, a new tuple, a new dict -/
inductive Out (K : PySem.W.Frag) (G H : Hp) : R → V → Hp → Hp → Prop
  | d {x : D} {v : V} : RepD K G x v → Out K G H (.d x) v G H
  | nl {p : Addr} {vs : List V} {xs : List D} : H p = none → RepDs K G xs vs → Out K G H (.tl xs) (.ref p) G (upd H p (.lst vs))
  | nt {p : Addr} {vs : List V} {xs : List D} : H p = none → RepDs K G xs vs → Out K G H (.d (.tup xs)) (.ref p) (upd G p (.tup vs)) (upd H p (.tup vs))
  | nd {p : Addr} {ks : List Key} {vs : List V} {xs : List D} : H p = none → ks.length = vs.length → RepDs K G xs vs → Out K G H (.td ks xs) (.ref p) G (upd H p (.dK (ks.zip vs)))
theorem Out.step (r : Rel K c G H σ e) (o : Out K G H ρ v G1 H1) : Step K c σ G H e G1 H1 e ∧ RepR K H G1 H1 σ e ρ v := by
  cases o with
  | d h => exact ⟨Step.refl r, h⟩
  | @nl p vs xs hp h =>
    refine ⟨Step.ext r (same_upd hp) (Same.refl _) (r.gh.trans (same_upd hp)) fun a h => .inl h, p, vs, rfl, upd_same, h, r.freshG hp, hp, r.freshO hp⟩
  | @nt p vs xs hp h =>
    refine ⟨Step.ext r (same_upd hp) (same_upd (r.freshG hp)) (same_upd2 r.gh) fun a h => ?_, .tup (.inl (.inl upd_same)) (RepDs.mono (same_upd (r.freshG hp)) h)⟩
    by_cases z : a = p
    · subst z; exact .inr hp
    · rw [upd_ne z] at h; exact .inl h
  | @nd p ks vs xs hp hl h =>
    refine ⟨Step.ext r (same_upd hp) (Same.refl _) (r.gh.trans (same_upd hp)) fun a h => .inl h, p, vs, rfl, upd_same, hl, h, r.freshG hp, hp, r.freshO hp⟩
/-- a slot of one's own becomes data -/
theorem Step.freeze {i : Nat} {s : S} {x : D} {o : HO} {v : V} (r : Rel K c G H σ e) (hs : e[i]? = some s) (ho : s.own = true) (hf : s.fixd = false) (hv : σ[i]? = some (some (.ref a))) (hH : H a = some o)
    (hr : ∀ G', Same G G' → G' a = some o → RepD K G' x (.ref a)) : ∃ G', Step K c σ G H e G' H (e.set i (.d x)) ∧ RepD K G' x (.ref a) := by
  have oa : OwnAt σ e a := ⟨i, s, hs, ho, hv⟩
  have ga := (r.own a oa).1
  have sg : Same G (upd G a o) := same_upd ga
  have hi : i < e.length := (List.getElem?_eq_some_iff.mp hs).1
  have back : ∀ b, OwnAt σ (e.set i (.d x)) b → OwnAt σ e b ∧ b ≠ a := fun b ⟨j, t, h1, h2, h3⟩ => by
    by_cases z : i = j
    · subst z
      rw [List.getElem?_set_self hi] at h1
      cases h1; cases h2
    · rw [List.getElem?_set_ne z] at h1
      refine ⟨⟨j, t, h1, h2, h3⟩, fun q => z ?_⟩
      subst q
      exact r.inj i j s t b hs h1 ho h2 hv h3
  have rd := hr _ sg upd_same
  refine ⟨upd G a o, ⟨⟨by rw [List.length_set]; exact r.len, fun j t h1 => ?_, ?_, r.keep, r.gsub.trans sg, fun b h => ?_, fun b hb => ?_, fun j k t u b h1 h2 h3 h4 h5 h6 => ?_, fun j b h => ?_, by rw [List.length_set]; exact r.ln⟩, sg, fun _ _ h _ => h, fun b h => ?_, fun b hb => (back b hb).1, fun _ h => h⟩, rd⟩
  · by_cases z : i = j
    · subst z
      rw [List.getElem?_set_self hi] at h1
      cases h1
      exact ⟨.ref a, by rw [hv]; rfl, rd⟩
    · rw [List.getElem?_set_ne z] at h1
      exact (r.sl j t h1).mono sg fun _ _ _ _ h => h
  · intro b u h
    by_cases z : b = a
    · subst z; rw [upd_same] at h; cases h; exact hH
    · rw [upd_ne z] at h; exact r.gh b u h
  · by_cases z : b = a
    · subst z
      rcases (r.own b oa).2 with q | q
      · exact .inr q
      · obtain ⟨j, hj⟩ := q
        obtain ⟨h1, t, h2, h3⟩ := r.rfs j b hj
        have : j = i := r.inj j i t s b h2 hs (S.own_of_fixd h3) ho h1 hv
        subst this
        rw [hs] at h2; cases h2
        rw [hf] at h3; cases h3
    · rw [upd_ne z] at h; exact r.gnew b h
  · obtain ⟨q1, q2⟩ := back b hb
    rw [upd_ne q2]
    exact r.own b q1
  · by_cases z1 : i = j
    · subst z1; rw [List.getElem?_set_self hi] at h1; cases h1; cases h3
    · by_cases z2 : i = k
      · subst z2; rw [List.getElem?_set_self hi] at h2; cases h2; cases h4
      · rw [List.getElem?_set_ne z1] at h1
        rw [List.getElem?_set_ne z2] at h2
        exact r.inj j k t u b h1 h2 h3 h4 h5 h6
  · obtain ⟨h1, t, h2, h3⟩ := r.rfs j b h
    refine ⟨h1, t, ?_, h3⟩
    by_cases z : i = j
    · subst z; rw [hs] at h2; cases h2; rw [hf] at h3; cases h3
    · rw [List.getElem?_set_ne z]; exact h2
  · by_cases z : b = a
    · subst z; exact .inr (.inr oa)
    · rw [upd_ne z] at h; exact .inl h
/-- something new, not in a slot, becomes data -/
theorem Step.publish {x : D} {o : HO} {G0 H0 : Hp} {e0 : List S} (st : Step K c σ G0 H0 e0 G H e) (hH : H a = some o) (hs : H0 a = none) (hg : G a = none) (hn : ¬ OwnAt σ e a) (r0 : Rel K c G0 H0 σ e0)
    (hr : ∀ G', Same G G' → G' a = some o → RepD K G' x (.ref a)) : ∃ G', Step K c σ G0 H0 e0 G' H e ∧ RepD K G' x (.ref a) ∧ Same G G' := by
  have r := st.rel
  have sg : Same G (upd G a o) := same_upd hg
  have oth : ∀ b, OwnAt σ e b → b ≠ a := fun b hb z => by subst z; exact hn hb
  refine ⟨upd G a o, ⟨⟨r.len, fun j t h1 => (r.sl j t h1).mono sg fun _ _ _ _ h => h, ?_, r.keep, r.gsub.trans sg, fun b h => ?_, fun b hb => ?_, r.inj, r.rfs, r.ln⟩, st.sg.trans sg, st.fr, fun b h => ?_, st.ow, st.th⟩, hr _ sg upd_same, sg⟩
  · intro b u h
    by_cases z : b = a
    · subst z; rw [upd_same] at h; cases h; exact hH
    · rw [upd_ne z] at h; exact r.gh b u h
  · by_cases z : b = a
    · subst z; exact .inr (r0.fresh0 hs)
    · rw [upd_ne z] at h; exact r.gnew b h
  · rw [upd_ne (oth b hb)]; exact r.own b hb
  · by_cases z : b = a
    · subst z; exact .inr (.inl hs)
    · rw [upd_ne z] at h; exact st.gn b h
/-- a result as data -/
theorem Step.asD {G0 H0 : Hp} {e0 : List S} (r0 : Rel K c G0 H0 σ e0) (st : Step K c σ G0 H0 e0 G H e) (r : RepR K H0 G H σ e ρ v) (h : see e ρ = some d) : ∃ G', Step K c σ G0 H0 e0 G' H (fz e ρ) ∧ RepD K G' d v ∧ Same G G' := by
  cases ρ with
  | d x => cases h; exact ⟨G, st, r, Same.refl _⟩
  | tw n => cases h
  | tl xs =>
    cases h
    obtain ⟨a, vs, rfl, h1, h2, h3, h4, h5⟩ := r
    exact Step.publish st h1 h4 h3 h5 r0 fun G' sg q => .lst q (RepDs.mono sg h2)
  | td ks xs =>
    cases h
    obtain ⟨a, vs, rfl, h1, hl, h2, h3, h4, h5⟩ := r
    exact Step.publish st h1 h4 h3 h5 r0 fun G' sg q => .dct q hl (RepDs.mono sg h2)
  | sl i =>
    have r' : σ[i]? = some (some v) := r
    simp only [L3.see] at h
    cases es : e[i]? with
    | none => rw [es] at h; cases h
    | some s =>
      rw [es] at h
      have q := st.rel.slot es r'
      cases s with
      | no => cases h
      | well n => cases h
      | wl _ => cases h
      | d x =>
        cases h
        obtain ⟨w, hw, k⟩ := q
        cases hw
        refine ⟨G, ?_, k, Same.refl _⟩
        simp only [fz, es]
        exact st
      | ol xs =>
        cases h
        obtain ⟨a, vs, hw, k1, k2⟩ := q
        cases hw
        obtain ⟨G', st', rd⟩ := Step.freeze (x := .lst xs) (v := .ref a) st.rel es rfl rfl r' k1 fun G' sg z => .lst z (RepDs.mono sg k2)
        refine ⟨G', ?_, rd, st'.sg⟩
        simp only [fz, es]
        exact st.trans r0 st'
      | od ks xs =>
        cases h
        obtain ⟨a, vs, hw, k1, k2, k3⟩ := q
        cases hw
        obtain ⟨G', st', rd⟩ := Step.freeze (x := .dct ks xs) (v := .ref a) st.rel es rfl rfl r' k1 fun G' sg z => .dct z k2 (RepDs.mono sg k3)
        refine ⟨G', ?_, rd, st'.sg⟩
        simp only [fz, es]
        exact st.trans r0 st'
end
end L3

/-! L3: what an expression's reading is over data -/
namespace L3
open PySem PySem.Spec PyProof.Rows L2

/-- an exception of one's own: its class, its dict -/
structure XV where
  C : Addr
  ns : List Str
  xs : List D
def RepX (K : PySem.W.Frag) (G H : Hp) (x : XV) (cl : Value) (dd : Option Addr) : Prop :=
  cl = .ref x.C ∧ ∃ a vs, dd = some a ∧ H a = some (.xd (x.ns.zip vs)) ∧ x.ns.length = vs.length ∧ RepDs K G x.xs vs
abbrev XD := XV → List S → Prop
abbrev TDE := XD → List S → (R → List S → Prop) → Prop
abbrev TDT := XD → List S → (Bool → List S → Prop) → Prop
/-- an argument: data, or a slot by reference -/
inductive AR where
  | d (x : D)
  | rf (i : Nat)
abbrev TDA := XD → List S → (List AR → List S → Prop) → Prop
abbrev TDI := XD → List S → (List D → List S → Prop) → Prop
def RepA (K : PySem.W.Frag) (G : Hp) (σ : St) : AR → V → Prop
  | .d x, v => RepD K G x v
  | .rf i, v => σ[i]? = some (some v)
inductive RepAs (K : PySem.W.Frag) (G : Hp) (σ : St) : List AR → List V → Prop
  | nil : RepAs K G σ [] []
  | cons {a : AR} {v : V} {as : List AR} {vs : List V} : RepA K G σ a v → RepAs K G σ as vs → RepAs K G σ (a :: as) (v :: vs)

def KE (K : PySem.W.Frag) (c : C0) (W : WX) (Xd : XD) (σ : St) (G H : Hp) (e : List S) : Prop :=
  ∀ (x : XV) (e' : List S) (cl : Value) (dd : Option Addr) (G' H' : Hp), Step K c σ G H e G' H' e' → RepX K G' H' x cl dd → Xd x e' → W cl dd σ H'

def liftE (K : PySem.W.Frag) (c : C0) (W : WX) (t : TDE) : TE := fun σ H Q => ∃ (G : Hp) (e : List S) (Qd : R → List S → Prop) (Xd : XD), Rel K c G H σ e ∧ t Xd e Qd ∧
  (∀ (ρ : R) (e' : List S) (v : V) (G' H' : Hp), Step K c σ G H e G' H' e' → RepR K H G' H' σ e' ρ v → Qd ρ e' → Q v H') ∧ KE K c W Xd σ G H e
def liftT (K : PySem.W.Frag) (c : C0) (W : WX) (t : TDT) : TT := fun σ H Q => ∃ (G : Hp) (e : List S) (Qd : Bool → List S → Prop) (Xd : XD), Rel K c G H σ e ∧ t Xd e Qd ∧
  (∀ (b : Bool) (e' : List S) (G' H' : Hp), Step K c σ G H e G' H' e' → Qd b e' → Q b H') ∧ KE K c W Xd σ G H e
def liftA (K : PySem.W.Frag) (c : C0) (W : WX) (t : TDA) : TA := fun σ H Q => ∃ (G : Hp) (e : List S) (Qd : List AR → List S → Prop) (Xd : XD), Rel K c G H σ e ∧ t Xd e Qd ∧
  (∀ (as : List AR) (e' : List S) (vs : List V) (G' H' : Hp), Step K c σ G H e G' H' e' → RepAs K G' σ as vs → Qd as e' → Q vs H') ∧ KE K c W Xd σ G H e

structure DE (X : Cx) (c : C0) (W : WX) (e : Expr) (t : TDE) : Prop where
  pe : PE X e (liftE X.K c W t)
structure DT (X : Cx) (c : C0) (W : WX) (e : Expr) (t : TDT) : Prop where
  pt : PT X e (liftT X.K c W t)
structure DA (X : Cx) (c : C0) (W : WX) (es : List Expr) (t : TDA) : Prop where
  pa : PA X es (liftA X.K c W t)

theorem PE.imp {X : Cx} {e : Expr} {t t' : TE} (h : PE X e t) (i : ∀ σ H Q, t' σ H Q → t σ H Q) : PE X e t' := ⟨fun pins s σ H Q I q => h.run pins s σ H Q I (i σ H Q q)⟩
theorem PT.imp {X : Cx} {e : Expr} {t t' : TT} (h : PT X e t) (i : ∀ σ H Q, t' σ H Q → t σ H Q) : PT X e t' := ⟨fun pins s σ H Q I q => h.run pins s σ H Q I (i σ H Q q)⟩
theorem PA.imp {X : Cx} {e : List Expr} {t t' : TA} (h : PA X e t) (i : ∀ σ H Q, t' σ H Q → t σ H Q) : PA X e t' := ⟨fun pos pins s σ H Q I q => h.run pos pins s σ H Q I (i σ H Q q)⟩

section
variable {K : PySem.W.Frag} {c : C0} {W : WX} {Xd : XD} {σ : St} {G H G1 H1 G2 H2 : Hp} {e e1 e2 : List S} {as : List AR} {vs : List V}
theorem KE.step (r : Rel K c G H σ e) (k : KE K c W Xd σ G H e) (st : Step K c σ G H e G1 H1 e1) : KE K c W Xd σ G1 H1 e1 := fun x e' cl dd G' H' s2 rx h => k x e' cl dd G' H' (st.trans r s2) rx h
theorem RepAs.mono (s : Same G G1) (h : RepAs K G σ as vs) : RepAs K G1 σ as vs := by
  induction h with
  | nil => exact .nil
  | @cons a v as vs h _ ih =>
    refine .cons ?_ ih
    cases a with
    | d x => exact RepD.mono s h
    | rf i => exact h
end

/-! ### names, constants -/
section
variable {X : Cx} {c : C0} {W : WX}
def dVar (i : Nat) : TDE := fun _ e Q => match e[i]? with
  | some (.d x) => Q (.d x) e
  | some .no => False
  | none => False
  | some _ => Q (.sl i) e
theorem dv (i : Nat) {x : Str} {pos : Pos} (hN : X.N[i]? = some x := by rfl) (hv : Vis X.env.scope x := by first | exact Or.inl rfl | exact Or.inr (Or.inl rfl) | exact Or.inr (Or.inr rfl)) (hd : (x == ("__debug__" : Str)) = false := by decide)
    (hcd : (x == ("__classdict__" : Str)) = false := by decide) : DE X c W (.Name x pos) (dVar i) := by
  refine ⟨PE.imp (pe_var hN hv hd hcd) fun σ H Q ⟨G, e, Qd, Xd, rel, h, hQ, hX⟩ => ?_⟩
  unfold dVar at h
  have ln := rel.len
  cases es : e[i]? with
  | none => rw [es] at h; exact h.elim
  | some s =>
    have sl := rel.sl i s es
    rw [es] at h
    cases s with
    | no => exact h.elim
    | d x =>
      obtain ⟨v, hv, k⟩ := sl
      cases q : σ[i]? with
      | none => rw [q] at hv; cases hv
      | some ov => rw [q] at hv; subst hv; exact ⟨v, q, hQ (.d x) e v G H (Step.refl rel) k h⟩
    | ol xs =>
      obtain ⟨a, vs, hv, k⟩ := sl
      cases q : σ[i]? with
      | none => rw [q] at hv; cases hv
      | some ov => rw [q] at hv; subst hv; exact ⟨.ref a, q, hQ (.sl i) e (.ref a) G H (Step.refl rel) q h⟩
    | od ks xs =>
      obtain ⟨a, vs, hv, k⟩ := sl
      cases q : σ[i]? with
      | none => rw [q] at hv; cases hv
      | some ov => rw [q] at hv; subst hv; exact ⟨.ref a, q, hQ (.sl i) e (.ref a) G H (Step.refl rel) q h⟩
    | well n =>
      obtain ⟨a, hv, k⟩ := sl
      cases q : σ[i]? with
      | none => rw [q] at hv; cases hv
      | some ov => rw [q] at hv; subst hv; exact ⟨.ref a, q, hQ (.sl i) e (.ref a) G H (Step.refl rel) q h⟩
    | wl n =>
      obtain ⟨a, _, hv, k⟩ := sl
      cases q : σ[i]? with
      | none => rw [q] at hv; cases hv
      | some ov => rw [q] at hv; subst hv; exact ⟨.ref a, q, hQ (.sl i) e (.ref a) G H (Step.refl rel) q h⟩
def dC (x : D) : TDE := fun _ e Q => Q (.d x) e
theorem de_const {e : Expr} {v : V} {x : D} (h : PE X e (tC v)) (r : ∀ G, RepD X.K G x v) : DE X c W e (dC x) := by
  refine ⟨PE.imp h fun σ H Q ⟨G, e, Qd, Xd, rel, h, hQ, hX⟩ => ?_⟩
  exact hQ (.d x) e v G H (Step.refl rel) (r G) h
theorem de_int {i : Int} {j pos} : DE X c W (.Constant (.int i) j pos) (dC (.int i)) := de_const pe_int fun _ => .int i
theorem de_bl {b : Bool} {j pos} : DE X c W (.Constant (.bool b) j pos) (dC (.bl b)) := de_const pe_bl fun _ => .bl b
theorem de_non {j pos} : DE X c W (.Constant .none j pos) (dC .non) := de_const pe_non fun _ => .non
theorem de_str {x : Str} {j pos} : DE X c W (.Constant (.str x) j pos) (dC (.str x)) := de_const pe_str fun _ => .str x
/-- a constant of the module -/
theorem de_glob {x : Str} {v : V} {u : Value} {d : D} {pos : Pos} (hg : Gl X x) (hm : X.mg x = some u) (r : RelV v u) (rd : ∀ G, RepD X.K G d v) (hd : (x == ("__debug__" : Str)) = false := by decide) : DE X c W (.Name x pos) (dC d) :=
  de_const (pe_glob hg hm r hd) rd
end

/-! ### two parts, one behind the other -/
section
variable {K : PySem.W.Frag} {c : C0} {W : WX} {ta tb tc : TDE} {σ : St} {H : Hp} {Q : VK}
/-- what an operation does with data -/
abbrev R3 := D → D → (R → Prop) → Prop
def Op3 (K : PySem.W.Frag) (r : R2) (r3 : R3) : Prop := ∀ (G H : Hp) (d1 d2 : D) (x y : V) (Qr : R → Prop) (Q : VK), Same G H → DV K G H d1 x → DV K G H d2 y → r3 d1 d2 Qr →
  (∀ ρ v G' H', Out K G H ρ v G' H' → Qr ρ → Q v H') → r x y H Q
def dBin (r3 : R3) (ta tb : TDE) : TDE := fun Xd e Q => ta Xd e fun ρ1 e1 => tb Xd e1 fun ρ2 e2 => ∃ d1 d2, see e2 ρ1 = some d1 ∧ see e2 ρ2 = some d2 ∧ r3 d1 d2 fun ρ => Q ρ e2
theorem lift_bin {r : R2} {r3 : R3} (ho : Op3 K r r3) (h : liftE K c W (dBin r3 ta tb) σ H Q) : tOp r (liftE K c W ta) (liftE K c W tb) σ H Q := by
  obtain ⟨G, e, Qd, Xd, rel, h, hQ, hX⟩ := h
  refine ⟨G, e, _, Xd, rel, h, fun ρ1 e1 v1 G1 H1 st1 r1 h1 => ?_, hX⟩
  refine ⟨G1, e1, _, Xd, st1.rel, h1, fun ρ2 e2 v2 G2 H2 st2 r2 h2 => ?_, hX.step rel st1⟩
  obtain ⟨d1, d2, s1, s2, h2⟩ := h2
  have st := st1.trans rel st2
  refine ho G2 H2 d1 d2 v1 v2 _ Q st.rel.gh ((r1.step st2).see st.rel s1) (r2.see st.rel s2) h2 fun ρ v G' H' o q => ?_
  obtain ⟨st3, r3⟩ := o.step st.rel
  exact hQ ρ e2 v G' H' (st.trans rel st3) (r3.back st) q
/-- one part -/
abbrev R31 := D → (R → Prop) → Prop
def Un3 (K : PySem.W.Frag) (r : V → Hp → VK → Prop) (r3 : R31) : Prop := ∀ (G H : Hp) (d1 : D) (x : V) (Qr : R → Prop) (Q : VK), Same G H → DV K G H d1 x → r3 d1 Qr →
  (∀ ρ v G' H', Out K G H ρ v G' H' → Qr ρ → Q v H') → r x H Q
def dUn (r3 : R31) (ta : TDE) : TDE := fun Xd e Q => ta Xd e fun ρ1 e1 => ∃ d1, see e1 ρ1 = some d1 ∧ r3 d1 fun ρ => Q ρ e1
theorem lift_un {r : V → Hp → VK → Prop} {r3 : R31} (ho : Un3 K r r3) (h : liftE K c W (dUn r3 ta) σ H Q) : liftE K c W ta σ H (fun x H1 => r x H1 Q) := by
  obtain ⟨G, e, Qd, Xd, rel, h, hQ, hX⟩ := h
  refine ⟨G, e, _, Xd, rel, h, fun ρ1 e1 v1 G1 H1 st1 r1 h1 => ?_, hX⟩
  obtain ⟨d1, s1, h1⟩ := h1
  refine ho G1 H1 d1 v1 _ Q st1.rel.gh (r1.see st1.rel s1) h1 fun ρ v G' H' o q => ?_
  obtain ⟨st3, r3⟩ := o.step st1.rel
  exact hQ ρ e1 v G' H' (st1.trans rel st3) (r3.back st1) q
end

/-! ### DV opened -/
section
variable {K : PySem.W.Frag} {G H : Hp} {v : V}
theorem DV.non (h : DV K G H .non v) : v = .non := by
  rcases h with h | ⟨_, _, _, h, _⟩ | ⟨_, _, _, _, h, _⟩
  · cases h; rfl
  · cases h
  · cases h
theorem DV.bl {b : Bool} (h : DV K G H (.bl b) v) : v = .bl b := by
  rcases h with h | ⟨_, _, _, h, _⟩ | ⟨_, _, _, _, h, _⟩
  · cases h; rfl
  · cases h
  · cases h
theorem DV.int {i : Int} (h : DV K G H (.int i) v) : v = .int i := by
  rcases h with h | ⟨_, _, _, h, _⟩ | ⟨_, _, _, _, h, _⟩
  · cases h; rfl
  · cases h
  · cases h
theorem DV.str {x : Str} (h : DV K G H (.str x) v) : v = .str x := by
  rcases h with h | ⟨_, _, _, h, _⟩ | ⟨_, _, _, _, h, _⟩
  · cases h; rfl
  · cases h
  · cases h
theorem DV.tup {xs : List D} (h : DV K G H (.tup xs) v) (s : Same G H) : ∃ a vs, v = .ref a ∧ SqT K H a vs ∧ RepDs K G xs vs := by
  rcases h with h | ⟨_, _, _, h, _⟩ | ⟨_, _, _, _, h, _⟩
  · cases h with
    | tup h1 h2 => exact ⟨_, _, rfl, Same.seqT s h1, h2⟩
  · cases h
  · cases h
theorem DV.lst {xs : List D} (h : DV K G H (.lst xs) v) (s : Same G H) : ∃ a vs, v = .ref a ∧ H a = some (.lst vs) ∧ RepDs K G xs vs := by
  rcases h with h | ⟨a, vs, ys, h, h1, h2, h3⟩ | ⟨_, _, _, _, h, _⟩
  · cases h with
    | lst h1 h2 => exact ⟨_, _, rfl, s _ _ h1, h2⟩
  · cases h; exact ⟨a, vs, h1, h2, h3⟩
  · cases h
theorem DV.scr {xs : List D} (h : DV K G H (scrD xs) v) (s : Same G H) : ∃ a vs, v = .ref a ∧ SqL K H a vs ∧ RepDs K G xs vs := by
  rcases h with h | ⟨_, _, _, h, _⟩ | ⟨_, _, _, _, h, _⟩
  · unfold scrD at h
    cases h with
    | ins hn h1 h2 h3 => exact absurd rfl hn
    | scr h1 h2 => exact ⟨_, _, rfl, Same.seqL s h1, h2⟩
  · cases h
  · cases h
theorem DV.dct {ks : List Key} {xs : List D} (h : DV K G H (.dct ks xs) v) (s : Same G H) : ∃ a vs, v = .ref a ∧ H a = some (.dK (ks.zip vs)) ∧ ks.length = vs.length ∧ RepDs K G xs vs := by
  rcases h with h | ⟨_, _, _, h, _⟩ | ⟨a, ks', vs, ys, h, h1, h2, h3, h4⟩
  · cases h with
    | dct h1 h2 h3 => exact ⟨_, _, rfl, s _ _ h1, h2, h3⟩
  · cases h
  · cases h; exact ⟨a, vs, h1, h2, h3, h4⟩
end

/-! ### tests, and, or, not, if else -/
section
variable {X : Cx} {c : C0} {W : WX} {a b e : Expr} {ta tb t : TDE} {tA tB' : TDT} {rest : List Expr} {pos : Pos}
def dB (t : TDE) : TDT := fun Xd e Q => t Xd e fun ρ e1 => ∃ b, see e1 ρ = some (.bl b) ∧ Q b e1
/-- an expression whose value is a bool -/
theorem dt_val (h : DE X c W e t) (he : ∀ whole, isTrue e X.env whole = (do let v ← whole; standAt e.pos; holding [v] (truthy v)) := by intro _; rfl) : DT X c W e (dB t) := by
  refine ⟨PT.imp (pt_val h.pe he) fun σ H Q ⟨G, e, Qd, Xd, rel, h, hQ, hX⟩ => ?_⟩
  refine ⟨G, e, _, Xd, rel, h, fun ρ1 e1 v1 G1 H1 st1 r1 h1 => ?_, hX⟩
  obtain ⟨b, s1, h1⟩ := h1
  exact ⟨b, (r1.see st1.rel s1).bl, hQ b e1 G1 H1 st1 h1⟩
def dNot (t : TDT) : TDT := fun Xd e Q => t Xd e fun b e1 => Q (!b) e1
theorem dt_not (h : DT X c W a tA) : DT X c W (.UnaryOp .Not a pos) (dNot tA) := by
  refine ⟨PT.imp (pt_not h.pt) fun σ H Q ⟨G, e, Qd, Xd, rel, h, hQ, hX⟩ => ?_⟩
  exact ⟨G, e, _, Xd, rel, h, fun b e1 G1 H1 st1 h1 => hQ _ e1 G1 H1 st1 h1, hX⟩
structure DW (X : Cx) (c : C0) (W : WX) (e : Expr) (t : TDT) : Prop where
  pw : PW X e (liftT X.K c W t)
theorem PW.imp {X : Cx} {e : Expr} {t t' : TT} (h : PW X e t) (i : ∀ σ H Q, t' σ H Q → t σ H Q) : PW X e t' := ⟨fun wh pins s σ H Q I q => h.run wh pins s σ H Q I (i σ H Q q)⟩
def dAnd (t u : TDT) : TDT := fun Xd e Q => t Xd e fun b e1 => if b = true then u Xd e1 Q else Q false e1
def dOr (t u : TDT) : TDT := fun Xd e Q => t Xd e fun b e1 => if b = true then Q true e1 else u Xd e1 Q
theorem dw_and1 (h : DT X c W a tA) : DW X c W (.BoolOp .And [a] pos) tA := ⟨pw_and1 h.pt⟩
theorem dw_or1 (h : DT X c W a tA) : DW X c W (.BoolOp .Or [a] pos) tA := ⟨pw_or1 h.pt⟩
theorem dw_and (ha : DT X c W a tA) (hb : DW X c W (.BoolOp .And (b :: rest) pos) tB') : DW X c W (.BoolOp .And (a :: b :: rest) pos) (dAnd tA tB') := by
  refine ⟨PW.imp (pw_and ha.pt hb.pw) fun σ H Q ⟨G, e, Qd, Xd, rel, h, hQ, hX⟩ => ?_⟩
  refine ⟨G, e, _, Xd, rel, h, fun b e1 G1 H1 st1 h1 => ?_, hX⟩
  cases b with
  | true => exact ⟨G1, e1, _, Xd, st1.rel, h1, fun b e2 G2 H2 st2 h2 => hQ b e2 G2 H2 (st1.trans rel st2) h2, hX.step rel st1⟩
  | false => exact hQ false e1 G1 H1 st1 h1
theorem dw_or (ha : DT X c W a tA) (hb : DW X c W (.BoolOp .Or (b :: rest) pos) tB') : DW X c W (.BoolOp .Or (a :: b :: rest) pos) (dOr tA tB') := by
  refine ⟨PW.imp (pw_or ha.pt hb.pw) fun σ H Q ⟨G, e, Qd, Xd, rel, h, hQ, hX⟩ => ?_⟩
  refine ⟨G, e, _, Xd, rel, h, fun b e1 G1 H1 st1 h1 => ?_, hX⟩
  cases b with
  | true => exact hQ true e1 G1 H1 st1 h1
  | false => exact ⟨G1, e1, _, Xd, st1.rel, h1, fun b e2 G2 H2 st2 h2 => hQ b e2 G2 H2 (st1.trans rel st2) h2, hX.step rel st1⟩
theorem dt_bool {e : Expr} (h : DW X c W e tA) : DT X c W e tA := ⟨h.pw.pt⟩
/-- .. as values, bools -/
def dAndV (ta tb : TDE) : TDE := fun Xd e Q => ta Xd e fun ρ e1 => ∃ b, see e1 ρ = some (.bl b) ∧ if b = true then tb Xd e1 Q else Q (.d (.bl false)) e1
def dOrV (ta tb : TDE) : TDE := fun Xd e Q => ta Xd e fun ρ e1 => ∃ b, see e1 ρ = some (.bl b) ∧ if b = true then Q (.d (.bl true)) e1 else tb Xd e1 Q
def dNotV (t : TDT) : TDE := fun Xd e Q => t Xd e fun b e1 => Q (.d (.bl (!b))) e1
theorem de_one {op} (h : DE X c W a t) : DE X c W (.BoolOp op [a] pos) t := ⟨pe_one h.pe⟩
theorem de_and (ha : DE X c W a ta) (hb : DE X c W (.BoolOp .And (b :: rest) pos) tb) : DE X c W (.BoolOp .And (a :: b :: rest) pos) (dAndV ta tb) := by
  refine ⟨PE.imp (pe_and ha.pe hb.pe) fun σ H Q ⟨G, e, Qd, Xd, rel, h, hQ, hX⟩ => ?_⟩
  refine ⟨G, e, _, Xd, rel, h, fun ρ1 e1 v1 G1 H1 st1 r1 h1 => ?_, hX⟩
  obtain ⟨b, s1, h1⟩ := h1
  refine ⟨b, (r1.see st1.rel s1).bl, ?_⟩
  cases b with
  | true => exact ⟨G1, e1, _, Xd, st1.rel, h1, fun ρ e2 v G2 H2 st2 r2 h2 => hQ ρ e2 v G2 H2 (st1.trans rel st2) (r2.back st1) h2, hX.step rel st1⟩
  | false => exact hQ (.d (.bl false)) e1 _ G1 H1 st1 (RepD.bl false) h1
theorem de_or (ha : DE X c W a ta) (hb : DE X c W (.BoolOp .Or (b :: rest) pos) tb) : DE X c W (.BoolOp .Or (a :: b :: rest) pos) (dOrV ta tb) := by
  refine ⟨PE.imp (pe_or ha.pe hb.pe) fun σ H Q ⟨G, e, Qd, Xd, rel, h, hQ, hX⟩ => ?_⟩
  refine ⟨G, e, _, Xd, rel, h, fun ρ1 e1 v1 G1 H1 st1 r1 h1 => ?_, hX⟩
  obtain ⟨b, s1, h1⟩ := h1
  refine ⟨b, (r1.see st1.rel s1).bl, ?_⟩
  cases b with
  | true => exact hQ (.d (.bl true)) e1 _ G1 H1 st1 (RepD.bl true) h1
  | false => exact ⟨G1, e1, _, Xd, st1.rel, h1, fun ρ e2 v G2 H2 st2 r2 h2 => hQ ρ e2 v G2 H2 (st1.trans rel st2) (r2.back st1) h2, hX.step rel st1⟩
theorem de_notB (h : DE X c W a t) : DE X c W (.UnaryOp .Not a pos) (dNotV (dB t)) := by
  refine ⟨PE.imp (pe_not h.pe) fun σ H Q ⟨G, e, Qd, Xd, rel, h, hQ, hX⟩ => ?_⟩
  refine ⟨G, e, _, Xd, rel, h, fun ρ1 e1 v1 G1 H1 st1 r1 h1 => ?_, hX⟩
  obtain ⟨b, s1, h1⟩ := h1
  exact ⟨b, (r1.see st1.rel s1).bl, hQ (.d (.bl (!b))) e1 _ G1 H1 st1 (RepD.bl _) h1⟩
def dIf (t : TDT) (ta tb : TDE) : TDE := fun Xd e Q => t Xd e fun b e1 => if b = true then ta Xd e1 Q else tb Xd e1 Q
theorem de_if {cx : Expr} (hc : DT X c W cx tA) (ha : DE X c W a ta) (hb : DE X c W b tb) : DE X c W (.IfExp cx a b pos) (dIf tA ta tb) := by
  refine ⟨PE.imp (pe_ifExp hc.pt ha.pe hb.pe) fun σ H Q ⟨G, e, Qd, Xd, rel, h, hQ, hX⟩ => ?_⟩
  refine ⟨G, e, _, Xd, rel, h, fun b e1 G1 H1 st1 h1 => ?_, hX⟩
  cases b with
  | true => exact ⟨G1, e1, _, Xd, st1.rel, h1, fun ρ e2 v G2 H2 st2 r2 h2 => hQ ρ e2 v G2 H2 (st1.trans rel st2) (r2.back st1) h2, hX.step rel st1⟩
  | false => exact ⟨G1, e1, _, Xd, st1.rel, h1, fun ρ e2 v G2 H2 st2 r2 h2 => hQ ρ e2 v G2 H2 (st1.trans rel st2) (r2.back st1) h2, hX.step rel st1⟩
end

/-! ### operators, comparisons, subscripts -/
section
variable {X : Cx} {c : C0} {W : WX} {a b : Expr} {ta tb : TDE} {pos : Pos} {r : R2} {r3 : R3}
theorem de_op {op : Operator} (ho : OpR X (binaryOp op) r) (h3 : Op3 X.K r r3) (ha : DE X c W a ta) (hb : DE X c W b tb) : DE X c W (.BinOp a op b pos) (dBin r3 ta tb) :=
  ⟨PE.imp (pe_op ho ha.pe hb.pe) fun σ H Q h => lift_bin h3 h⟩
theorem de_cmp {op : CmpOp} (ho : OpR X (compareOp op) r) (h3 : Op3 X.K r r3) (ha : DE X c W a ta) (hb : DE X c W b tb) (hm : behindInMarks op b = false := by first | exact nomark _ | rfl) : DE X c W (.Compare a [op] [b] pos) (dBin r3 ta tb) :=
  ⟨PE.imp (pe_cmpR ho ha.pe hb.pe hm) fun σ H Q h => lift_bin h3 h⟩
theorem dt_cmp {op : CmpOp} (ho : OpR X (compareOp op) r) (h3 : Op3 X.K r r3) (ha : DE X c W a ta) (hb : DE X c W b tb) (hm : behindInMarks op b = false := by first | exact nomark _ | rfl) : DT X c W (.Compare a [op] [b] pos) (dB (dBin r3 ta tb)) := by
  refine ⟨PT.imp (pt_cmpR ho ha.pe hb.pe hm) fun σ H Q ⟨G, e, Qd, Xd, rel, h, hQ, hX⟩ => ?_⟩
  refine lift_bin h3 ⟨G, e, _, Xd, rel, h, fun ρ1 e1 v1 G1 H1 st1 r1 h1 => ?_, hX⟩
  obtain ⟨b, s1, h1⟩ := h1
  exact ⟨b, (r1.see st1.rel s1).bl, hQ b e1 G1 H1 st1 h1⟩
theorem de_ix (hr : IxR X r) (h3 : Op3 X.K r r3) (ha : DE X c W a ta) (hb : DE X c W b tb) (hs : PlainIx b := by exact fun _ _ => rfl) : DE X c W (.Subscript a b pos) (dBin r3 ta tb) :=
  ⟨PE.imp (pe_ix hr ha.pe hb.pe hs) fun σ H Q h => lift_bin h3 h⟩
end

/-! ### displays, argument lists -/
section
variable {X : Cx} {c : C0} {W : WX} {e : Expr} {es : List Expr} {te : TDE} {t : TDA} {pos : Pos}
def dNil : TDA := fun _ e Q => Q [] e
def dCons (te : TDE) (t : TDA) : TDA := fun Xd e Q => te Xd e fun ρ e1 => ∃ d, see e1 ρ = some d ∧ t Xd (fz e1 ρ) fun as e2 => Q (.d d :: as) e2
/-- an own thing by reference -/
def dRef (i : Nat) (t : TDA) : TDA := fun Xd e Q => (∃ s, e[i]? = some s ∧ s.fixd = true) ∧ t Xd e fun as e2 => Q (.rf i :: as) e2
theorem da_nil : DA X c W [] dNil := ⟨PA.imp pa_nil fun σ H Q ⟨G, e, Qd, Xd, rel, h, hQ, hX⟩ => hQ [] e [] G H (Step.refl rel) .nil h⟩
theorem da_cons (ha : DE X c W e te) (hr : DA X c W es t) (hs : starEach (e :: es) X.env = (false, eval e X.env) :: starEach es X.env := by rfl) : DA X c W (e :: es) (dCons te t) := by
  refine ⟨PA.imp (pa_cons ha.pe hr.pa hs) fun σ H Q ⟨G, e, Qd, Xd, rel, h, hQ, hX⟩ => ?_⟩
  refine ⟨G, e, _, Xd, rel, h, fun ρ1 e1 v1 G1 H1 st1 r1 h1 => ?_, hX⟩
  obtain ⟨d, s1, h1⟩ := h1
  obtain ⟨G1', st1', rd, _⟩ := Step.asD rel st1 r1 s1
  refine ⟨G1', _, _, Xd, st1'.rel, h1, fun as e2 vs G2 H2 st2 r2 h2 => ?_, hX.step rel st1'⟩
  exact hQ _ e2 _ G2 H2 (st1'.trans rel st2) (.cons (show RepA X.K G2 σ (.d d) v1 from RepD.mono st2.sg rd) r2) h2
theorem da_ref (i : Nat) {x : Str} {p : Pos} (hr : DA X c W es t) (hN : X.N[i]? = some x := by rfl) (hv : Vis X.env.scope x := by first | exact Or.inl rfl | exact Or.inr (Or.inl rfl) | exact Or.inr (Or.inr rfl)) (hd : (x == ("__debug__" : Str)) = false := by decide)
    (hcd : (x == ("__classdict__" : Str)) = false := by decide) (hs : starEach (.Name x p :: es) X.env = (false, eval (.Name x p) X.env) :: starEach es X.env := by rfl) : DA X c W (.Name x p :: es) (dRef i t) := by
  refine ⟨PA.imp (pa_cons (pe_var hN hv hd hcd) hr.pa hs) fun σ H Q ⟨G, e, Qd, Xd, rel, ⟨⟨s, hs, hf⟩, h⟩, hQ, hX⟩ => ?_⟩
  have sl := rel.sl i s hs
  obtain ⟨v, hv⟩ : ∃ v, σ[i]? = some (some v) := by
    cases s with
    | well n =>
      obtain ⟨a, hv, _⟩ := sl
      cases q : σ[i]? with
      | none => rw [q] at hv; cases hv
      | some ov => rw [q] at hv; subst hv; exact ⟨_, rfl⟩
    | wl n =>
      obtain ⟨a, _, hv, _⟩ := sl
      cases q : σ[i]? with
      | none => rw [q] at hv; cases hv
      | some ov => rw [q] at hv; subst hv; exact ⟨_, rfl⟩
    | no => cases hf
    | d _ => cases hf
    | ol _ => cases hf
    | od _ _ => cases hf
  exact ⟨v, hv, G, e, _, Xd, rel, h, fun as e2 vs G2 H2 st2 r2 h2 => hQ _ e2 _ G2 H2 st2 (.cons (show RepA X.K G2 σ (.rf i) v from hv) r2) h2, hX⟩
/-- data alone -/
def dats : List AR → Option (List D)
  | [] => some []
  | .d x :: r => (dats r).map (x :: ·)
  | .rf _ :: _ => none
theorem dats_rep {K : PySem.W.Frag} {G : Hp} {σ : St} : ∀ {as : List AR} {vs : List V} {ds : List D}, RepAs K G σ as vs → dats as = some ds → RepDs K G ds vs
  | _, _, _, .nil, e => by cases e; exact .nil
  | .d x :: r, _, ds, .cons h q, e => by
    simp only [dats, Option.map_eq_some_iff] at e
    obtain ⟨es, e1, rfl⟩ := e
    exact .cons h (dats_rep q e1)
  | .rf _ :: _, _, _, .cons _ _, e => by cases e
def dTup (t : TDA) : TDE := fun Xd e Q => t Xd e fun as e1 => ∃ ds, dats as = some ds ∧ ds.length ≤ 1000000 ∧ Q (.d (.tup ds)) e1
def dLst (t : TDA) : TDE := fun Xd e Q => t Xd e fun as e1 => ∃ ds, dats as = some ds ∧ ds.length ≤ 1000000 ∧ Q (.tl ds) e1
theorem mil : 1000000 ≤ sizeLine := by rw [sizeLine_eq]; decide
theorem de_tup {x1} (h : DA X c W es t) : DE X c W (.Tuple es x1 pos) (dTup t) := by
  refine ⟨PE.imp (pe_tup h.pa) fun σ H Q ⟨G, e, Qd, Xd, rel, h, hQ, hX⟩ => ?_⟩
  refine ⟨G, e, _, Xd, rel, h, fun as e1 vs G1 H1 st1 r1 h1 => ?_, hX⟩
  obtain ⟨ds, hd, hl, h1⟩ := h1
  have rd := dats_rep r1 hd
  refine ⟨by rw [← rd.length]; exact Nat.le_trans hl mil, fun p hp => ?_⟩
  obtain ⟨st2, r2⟩ := (Out.nt hp rd).step st1.rel
  exact hQ _ e1 _ _ _ (st1.trans rel st2) (r2.back st1) h1
theorem de_lst (h : DA X c W es t) : DE X c W (.List es pos) (dLst t) := by
  refine ⟨PE.imp (pe_lst h.pa) fun σ H Q ⟨G, e, Qd, Xd, rel, h, hQ, hX⟩ => ?_⟩
  refine ⟨G, e, _, Xd, rel, h, fun as e1 vs G1 H1 st1 r1 h1 => ?_, hX⟩
  obtain ⟨ds, hd, hl, h1⟩ := h1
  have rd := dats_rep r1 hd
  refine ⟨by rw [← rd.length]; exact Nat.le_trans hl mil, fun p hp => ?_⟩
  obtain ⟨st2, r2⟩ := (Out.nl hp rd).step st1.rel
  exact hQ _ e1 _ _ _ (st1.trans rel st2) (r2.back st1) h1
end
end L3

/-! L3: == and != of data -/
namespace PySem.SeqAt
open AutoSeq1 (wpAny_loadPart')
open MeetsSeq PyProof.Rows
section
variable (l : Addr) (es : Array DictEntry) (n : Nat) (dd : Option Addr) (sl : Array (Option Value))
abbrev dObj : Obj := { cls := .type "dict", dict := dd, data := .dict es n, slots := sl }
theorem l3_dict_eq_none : Meets (Builtin.«dict.__eq__» ⟨[.ref l, .none], []⟩) (fun _ R s => s.heap.get? l = some (dObj es n dd sl) ∧ R (.ok (.ret .notImplemented)) s) :=
  .of_wp fun prog w A R s h => by obtain ⟨hp, g, d, tk, os⟩ := s; obtain ⟨hl, h⟩ := h; have f1 := F.sub_NoneType_dict; wp_walk using wpAny_loadPart' hl, wpAny_load hl; exact ⟨_, rfl, h⟩
theorem l3_dict_eq_bool (b : Bool) : Meets (Builtin.«dict.__eq__» ⟨[.ref l, .bool b], []⟩) (fun _ R s => s.heap.get? l = some (dObj es n dd sl) ∧ R (.ok (.ret .notImplemented)) s) :=
  .of_wp fun prog w A R s h => by obtain ⟨hp, g, d, tk, os⟩ := s; obtain ⟨hl, h⟩ := h; have f1 := F.sub_bool_dict; wp_walk using wpAny_loadPart' hl, wpAny_load hl; exact ⟨_, rfl, h⟩
theorem l3_dict_eq_int (b : Int) (u : Tok) : Meets (Builtin.«dict.__eq__» ⟨[.ref l, .int b u], []⟩) (fun _ R s => s.heap.get? l = some (dObj es n dd sl) ∧ R (.ok (.ret .notImplemented)) s) :=
  .of_wp fun prog w A R s h => by obtain ⟨hp, g, d, tk, os⟩ := s; obtain ⟨hl, h⟩ := h; have f1 := F.sub_int_dict; wp_walk using wpAny_loadPart' hl, wpAny_load hl; exact ⟨_, rfl, h⟩
theorem l3_dict_eq_str (b : Str) (u : Tok) : Meets (Builtin.«dict.__eq__» ⟨[.ref l, .str b u], []⟩) (fun _ R s => s.heap.get? l = some (dObj es n dd sl) ∧ R (.ok (.ret .notImplemented)) s) :=
  .of_wp fun prog w A R s h => by obtain ⟨hp, g, d, tk, os⟩ := s; obtain ⟨hl, h⟩ := h; have f1 := F.sub_str_dict; wp_walk using wpAny_loadPart' hl, wpAny_load hl; exact ⟨_, rfl, h⟩
theorem l3_str_eq_dict (b : Str) (u : Tok) : Meets (Builtin.«str.__eq__» ⟨[.str b u, .ref l], []⟩) (fun _ R s => s.heap.get? l = some (dObj es n dd sl) ∧ R (.ok (.ret .notImplemented)) s) :=
  .of_wp fun prog w A R s h => by obtain ⟨hp, g, d, tk, os⟩ := s; obtain ⟨hl, h⟩ := h; wp_walk using wpAny_loadPart' hl, wpAny_load hl; exact ⟨_, rfl, h⟩
theorem l3_int_eq_dict (b : Int) (u : Tok) : Meets (Builtin.«int.__eq__» ⟨[.int b u, .ref l], []⟩) (fun _ R s => s.heap.get? l = some (dObj es n dd sl) ∧ R (.ok (.ret .notImplemented)) s) :=
  .of_wp fun prog w A R s h => by obtain ⟨hp, g, d, tk, os⟩ := s; obtain ⟨hl, h⟩ := h; wp_walk using wpAny_loadPart' hl, wpAny_load hl; exact ⟨_, rfl, h⟩
theorem l3_bool_eq_dict (b : Bool) : Meets (Builtin.«int.__eq__» ⟨[.bool b, .ref l], []⟩) (fun _ R s => s.heap.get? l = some (dObj es n dd sl) ∧ R (.ok (.ret .notImplemented)) s) :=
  .of_wp fun prog w A R s h => by obtain ⟨hp, g, d, tk, os⟩ := s; obtain ⟨hl, h⟩ := h; wp_walk using wpAny_loadPart' hl, wpAny_load hl; exact ⟨_, rfl, h⟩
theorem l3_dict_eq_list (b : Addr) (items : Array Value) (n2 : Nat) (dd2 : Option Addr) (sl2 : Array (Option Value)) : Meets (Builtin.«dict.__eq__» ⟨[.ref l, .ref b], []⟩) (fun _ R s => s.heap.get? l = some (dObj es n dd sl) ∧ s.heap.get? b = some { cls := .type "list", dict := dd2, data := .seq items n2, slots := sl2 } ∧ R (.ok (.ret .notImplemented)) s) :=
  .of_wp fun prog w A R s h => by obtain ⟨hp, g, d, tk, os⟩ := s; obtain ⟨hl, hb, h⟩ := h; have f1 := F.sub_list_dict; wp_walk using wpAny_loadPart' hl, wpAny_load hl, wpAny_loadPart' hb, wpAny_load hb; exact ⟨_, rfl, h⟩
theorem l3_dict_eq_tuple (b : Addr) (items : Array Value) (n2 : Nat) (dd2 : Option Addr) (sl2 : Array (Option Value)) : Meets (Builtin.«dict.__eq__» ⟨[.ref l, .ref b], []⟩) (fun _ R s => s.heap.get? l = some (dObj es n dd sl) ∧ s.heap.get? b = some { cls := .type "tuple", dict := dd2, data := .seq items n2, slots := sl2 } ∧ R (.ok (.ret .notImplemented)) s) :=
  .of_wp fun prog w A R s h => by obtain ⟨hp, g, d, tk, os⟩ := s; obtain ⟨hl, hb, h⟩ := h; have f1 := F.sub_tuple_dict; wp_walk using wpAny_loadPart' hl, wpAny_load hl, wpAny_loadPart' hb, wpAny_load hb; exact ⟨_, rfl, h⟩
theorem l3_list_eq_dict (b : Addr) (items : Array Value) (n2 : Nat) (dd2 : Option Addr) (sl2 : Array (Option Value)) : Meets (Builtin.«list.__eq__» ⟨[.ref b, .ref l], []⟩) (fun _ R s => s.heap.get? l = some (dObj es n dd sl) ∧ s.heap.get? b = some { cls := .type "list", dict := dd2, data := .seq items n2, slots := sl2 } ∧ R (.ok (.ret .notImplemented)) s) :=
  .of_wp fun prog w A R s h => by obtain ⟨hp, g, d, tk, os⟩ := s; obtain ⟨hl, hb, h⟩ := h; have f1 := F.sub_dict_list; wp_walk using wpAny_loadPart' hl, wpAny_load hl, wpAny_loadPart' hb, wpAny_load hb; exact ⟨_, rfl, h⟩
theorem l3_tuple_eq_dict (b : Addr) (items : Array Value) (n2 : Nat) (dd2 : Option Addr) (sl2 : Array (Option Value)) : Meets (Builtin.«tuple.__eq__» ⟨[.ref b, .ref l], []⟩) (fun _ R s => s.heap.get? l = some (dObj es n dd sl) ∧ s.heap.get? b = some { cls := .type "tuple", dict := dd2, data := .seq items n2, slots := sl2 } ∧ R (.ok (.ret .notImplemented)) s) :=
  .of_wp fun prog w A R s h => by obtain ⟨hp, g, d, tk, os⟩ := s; obtain ⟨hl, hb, h⟩ := h; have f1 := F.sub_dict_tuple; wp_walk using wpAny_loadPart' hl, wpAny_load hl, wpAny_loadPart' hb, wpAny_load hb; exact ⟨_, rfl, h⟩
end
section
variable {A : Around} {s : Shared} {l : Addr} {es : Array DictEntry} {n : Nat} {dd : Option Addr} {sl : Array (Option Value)}
theorem l3_eqAt_of_rc {a b : Value} {k : Bool} (hne : (a == b) = false) (hf : ∀ x t, a ≠ .float x t) (h : RcAt A s a b k) : EqAt A s a b k := fun prog w E Q hq => by
  unfold eqBool
  refine wpAny_holding ?_
  refine wpAny_ite_split (fun hab => absurd hab (by rw [hne]; decide)) (fun _ => ?_)
  cases a <;> first | exact absurd rfl (hf _ _) | exact wpAny_bind (h prog w E _ (wpAny_truthy_bool hq))
theorem l3_ne1 : Value.type "dict" ≠ Value.type "list" := by decide
theorem l3_ne2 : Value.type "dict" ≠ Value.type "tuple" := by decide
theorem l3_ne3 : Value.type "list" ≠ Value.type "tuple" := by decide
theorem l3_rc_dict_none (hl : s.heap.get? l = some (dObj es n dd sl)) (hu : A.units < cLine) : RcAt A s (.ref l) .none false := fun prog w E Q h =>
  rc_eq_decline_or (k := false) ⟨_, hl, rfl⟩ rfl (by decide) F.sub_NoneType_dict F.slot_dict_eq F.slot_NoneType_eq_refl
    (fun _ hq => call_meets F.slot_dict_eq ⟨_, hl, rfl⟩ F.entry_dict_eq (F.args_dict_eq_2 _ _) (l3_dict_eq_none l es n dd sl) ⟨hl, hq⟩)
    (fun _ hq => call_gives F.slot_NoneType_eq_refl rfl F.entry_NoneType_eq (F.args_NoneType_eq_2 _ _) (NoneType___eq___none_ref_0 l) hq)
    (fun _ hq => wpAny_of_eq (rfl : isSame (.ref l) .none = pure false) hq) (.inr hu) h
theorem l3_rc_none_dict (hl : s.heap.get? l = some (dObj es n dd sl)) (hu : A.units < cLine) : RcAt A s .none (.ref l) false := fun prog w E Q h =>
  rc_eq_decline_or (k := false) rfl ⟨_, hl, rfl⟩ (by decide) F.sub_dict_NoneType F.slot_NoneType_eq F.slot_dict_eq_refl
    (fun _ hq => call_gives F.slot_NoneType_eq rfl F.entry_NoneType_eq (F.args_NoneType_eq_2 _ _) (NoneType___eq___none_ref_0 l) hq)
    (fun _ hq => call_meets F.slot_dict_eq_refl ⟨_, hl, rfl⟩ F.entry_dict_eq (F.args_dict_eq_2 _ _) (l3_dict_eq_none l es n dd sl) ⟨hl, hq⟩)
    (fun _ hq => wpAny_of_eq (rfl : isSame .none (.ref l) = pure false) hq) (.inr hu) h
theorem l3_rc_dict_bool (b : Bool) (hl : s.heap.get? l = some (dObj es n dd sl)) (hu : A.units < cLine) : RcAt A s (.ref l) (.bool b) false := fun prog w E Q h =>
  rc_eq_decline_or (k := false) ⟨_, hl, rfl⟩ rfl (by decide) F.sub_bool_dict F.slot_dict_eq F.slot_bool_eq_refl
    (fun _ hq => call_meets F.slot_dict_eq ⟨_, hl, rfl⟩ F.entry_dict_eq (F.args_dict_eq_2 _ _) (l3_dict_eq_bool l es n dd sl b) ⟨hl, hq⟩)
    (fun _ hq => call_meets F.slot_bool_eq_refl rfl F.entry_int_eq (F.args_int_eq_2 _ _) (l3_bool_eq_dict l es n dd sl b) ⟨hl, hq⟩)
    (fun _ hq => wpAny_of_eq (rfl : isSame (.ref l) (.bool b) = pure false) hq) (.inr hu) h
theorem l3_rc_bool_dict (b : Bool) (hl : s.heap.get? l = some (dObj es n dd sl)) (hu : A.units < cLine) : RcAt A s (.bool b) (.ref l) false := fun prog w E Q h =>
  rc_eq_decline_or (k := false) rfl ⟨_, hl, rfl⟩ (by decide) F.sub_dict_bool F.slot_bool_eq F.slot_dict_eq_refl
    (fun _ hq => call_meets F.slot_bool_eq rfl F.entry_int_eq (F.args_int_eq_2 _ _) (l3_bool_eq_dict l es n dd sl b) ⟨hl, hq⟩)
    (fun _ hq => call_meets F.slot_dict_eq_refl ⟨_, hl, rfl⟩ F.entry_dict_eq (F.args_dict_eq_2 _ _) (l3_dict_eq_bool l es n dd sl b) ⟨hl, hq⟩)
    (fun _ hq => wpAny_of_eq (rfl : isSame (.bool b) (.ref l) = pure false) hq) (.inr hu) h
theorem l3_rc_dict_int (b : Int) (u : Tok) (hl : s.heap.get? l = some (dObj es n dd sl)) (hu : A.units < cLine) : RcAt A s (.ref l) (.int b u) false := fun prog w E Q h =>
  rc_eq_decline_or (k := false) ⟨_, hl, rfl⟩ (typeIs_int s b u) (by decide) F.sub_int_dict F.slot_dict_eq F.slot_int_eq_refl
    (fun _ hq => call_meets F.slot_dict_eq ⟨_, hl, rfl⟩ F.entry_dict_eq (F.args_dict_eq_2 _ _) (l3_dict_eq_int l es n dd sl b u) ⟨hl, hq⟩)
    (fun _ hq => call_meets F.slot_int_eq_refl (typeIs_int s b u) F.entry_int_eq (F.args_int_eq_2 _ _) (l3_int_eq_dict l es n dd sl b u) ⟨hl, hq⟩)
    (fun _ hq => wpAny_of_eq (rfl : isSame (.ref l) (.int b u) = pure false) hq) (.inr hu) h
theorem l3_rc_int_dict (b : Int) (u : Tok) (hl : s.heap.get? l = some (dObj es n dd sl)) (hu : A.units < cLine) : RcAt A s (.int b u) (.ref l) false := fun prog w E Q h =>
  rc_eq_decline_or (k := false) (typeIs_int s b u) ⟨_, hl, rfl⟩ (by decide) F.sub_dict_int F.slot_int_eq F.slot_dict_eq_refl
    (fun _ hq => call_meets F.slot_int_eq (typeIs_int s b u) F.entry_int_eq (F.args_int_eq_2 _ _) (l3_int_eq_dict l es n dd sl b u) ⟨hl, hq⟩)
    (fun _ hq => call_meets F.slot_dict_eq_refl ⟨_, hl, rfl⟩ F.entry_dict_eq (F.args_dict_eq_2 _ _) (l3_dict_eq_int l es n dd sl b u) ⟨hl, hq⟩)
    (fun _ hq => wpAny_of_eq (rfl : isSame (.int b u) (.ref l) = pure false) hq) (.inr hu) h
theorem l3_rc_dict_str (b : Str) (u : Tok) (hl : s.heap.get? l = some (dObj es n dd sl)) (hu : A.units < cLine) : RcAt A s (.ref l) (.str b u) false := fun prog w E Q h =>
  rc_eq_decline_or (k := false) ⟨_, hl, rfl⟩ (typeIs_str s b u) (by decide) F.sub_str_dict F.slot_dict_eq F.slot_str_eq_refl
    (fun _ hq => call_meets F.slot_dict_eq ⟨_, hl, rfl⟩ F.entry_dict_eq (F.args_dict_eq_2 _ _) (l3_dict_eq_str l es n dd sl b u) ⟨hl, hq⟩)
    (fun _ hq => call_meets F.slot_str_eq_refl (typeIs_str s b u) F.entry_str_eq (F.args_str_eq_2 _ _) (l3_str_eq_dict l es n dd sl b u) ⟨hl, hq⟩)
    (fun _ hq => wpAny_of_eq (rfl : isSame (.ref l) (.str b u) = pure false) hq) (.inr hu) h
theorem l3_rc_str_dict (b : Str) (u : Tok) (hl : s.heap.get? l = some (dObj es n dd sl)) (hu : A.units < cLine) : RcAt A s (.str b u) (.ref l) false := fun prog w E Q h =>
  rc_eq_decline_or (k := false) (typeIs_str s b u) ⟨_, hl, rfl⟩ (by decide) F.sub_dict_str F.slot_str_eq F.slot_dict_eq_refl
    (fun _ hq => call_meets F.slot_str_eq (typeIs_str s b u) F.entry_str_eq (F.args_str_eq_2 _ _) (l3_str_eq_dict l es n dd sl b u) ⟨hl, hq⟩)
    (fun _ hq => call_meets F.slot_dict_eq_refl ⟨_, hl, rfl⟩ F.entry_dict_eq (F.args_dict_eq_2 _ _) (l3_dict_eq_str l es n dd sl b u) ⟨hl, hq⟩)
    (fun _ hq => wpAny_of_eq (rfl : isSame (.str b u) (.ref l) = pure false) hq) (.inr hu) h
variable {b : Addr} {items : Array Value}
theorem l3_rc_dict_list (hl : s.heap.get? l = some (dObj es n dd sl)) (hb : s.heap.IsList b items) (hu : A.units < cLine) : RcAt A s (.ref l) (.ref b) false := fun prog w E Q h => by
  obtain ⟨⟨cls, dd2, data, sl2⟩, ho, hc, n2, hd⟩ := id hb
  simp only at hc hd
  subst hc hd
  have hne : l ≠ b := fun z => by subst z; rw [hl] at ho; exact absurd (congrArg Obj.cls (Option.some.inj ho)) (by first | exact l3_ne1 | exact l3_ne2)
  exact rc_eq_decline_or (k := false) ⟨_, hl, rfl⟩ ⟨_, ho, rfl⟩ (by decide) F.sub_list_dict F.slot_dict_eq F.slot_list_eq_refl
    (fun _ hq => call_meets F.slot_dict_eq ⟨_, hl, rfl⟩ F.entry_dict_eq (F.args_dict_eq_2 _ _) (l3_dict_eq_list l es n dd sl b items n2 dd2 sl2) ⟨hl, ho, hq⟩)
    (fun _ hq => call_meets F.slot_list_eq_refl ⟨_, ho, rfl⟩ F.entry_list_eq (F.args_list_eq_2 _ _) (l3_list_eq_dict l es n dd sl b items n2 dd2 sl2) ⟨hl, ho, hq⟩)
    (fun _ hq => wpAny_isSame_ref_other' hne hl ho l3_ne3 hq) (.inr hu) h
theorem l3_rc_list_dict (hl : s.heap.get? l = some (dObj es n dd sl)) (hb : s.heap.IsList b items) (hu : A.units < cLine) : RcAt A s (.ref b) (.ref l) false := fun prog w E Q h => by
  obtain ⟨⟨cls, dd2, data, sl2⟩, ho, hc, n2, hd⟩ := id hb
  simp only at hc hd
  subst hc hd
  have hne : b ≠ l := fun z => by subst z; rw [hl] at ho; exact absurd (congrArg Obj.cls (Option.some.inj ho)) (by first | exact l3_ne1 | exact l3_ne2)
  exact rc_eq_decline_or (k := false) ⟨_, ho, rfl⟩ ⟨_, hl, rfl⟩ (by decide) F.sub_dict_list F.slot_list_eq F.slot_dict_eq_refl
    (fun _ hq => call_meets F.slot_list_eq ⟨_, ho, rfl⟩ F.entry_list_eq (F.args_list_eq_2 _ _) (l3_list_eq_dict l es n dd sl b items n2 dd2 sl2) ⟨hl, ho, hq⟩)
    (fun _ hq => call_meets F.slot_dict_eq_refl ⟨_, hl, rfl⟩ F.entry_dict_eq (F.args_dict_eq_2 _ _) (l3_dict_eq_list l es n dd sl b items n2 dd2 sl2) ⟨hl, ho, hq⟩)
    (fun _ hq => wpAny_isSame_ref_other' hne ho hl l3_ne2 hq) (.inr hu) h
theorem l3_rc_dict_tuple (hl : s.heap.get? l = some (dObj es n dd sl)) (hb : s.heap.IsTuple b items) (hu : A.units < cLine) : RcAt A s (.ref l) (.ref b) false := fun prog w E Q h => by
  obtain ⟨⟨cls, dd2, data, sl2⟩, ho, hc, n2, hd⟩ := id hb
  simp only at hc hd
  subst hc hd
  have hne : l ≠ b := fun z => by subst z; rw [hl] at ho; exact absurd (congrArg Obj.cls (Option.some.inj ho)) (by first | exact l3_ne1 | exact l3_ne2)
  have e1 : (l == b) = false := by simpa using hne
  exact rc_eq_decline_or (k := false) ⟨_, hl, rfl⟩ ⟨_, ho, rfl⟩ (by decide) F.sub_tuple_dict F.slot_dict_eq F.slot_tuple_eq_refl
    (fun _ hq => call_meets F.slot_dict_eq ⟨_, hl, rfl⟩ F.entry_dict_eq (F.args_dict_eq_2 _ _) (l3_dict_eq_tuple l es n dd sl b items n2 dd2 sl2) ⟨hl, ho, hq⟩)
    (fun _ hq => call_meets F.slot_tuple_eq_refl ⟨_, ho, rfl⟩ F.entry_tuple_eq (F.args_tuple_eq_2 _ _) (l3_tuple_eq_dict l es n dd sl b items n2 dd2 sl2) ⟨hl, ho, hq⟩)
    (fun R hq => by
      show wpAny _ _ (if (l == b) = true then pure true else _) R E s
      rw [if_neg (by rw [e1]; decide)]
      refine wpAny_bind (wpAny_load hl (wpAny_bind (wpAny_load ho ?_)))
      split
      · rename_i h1 _ _ _; exact absurd h1 l3_ne2
      · exact wpAny_pure hq) (.inr hu) h
theorem l3_rc_tuple_dict (hl : s.heap.get? l = some (dObj es n dd sl)) (hb : s.heap.IsTuple b items) (hu : A.units < cLine) : RcAt A s (.ref b) (.ref l) false := fun prog w E Q h => by
  obtain ⟨⟨cls, dd2, data, sl2⟩, ho, hc, n2, hd⟩ := id hb
  simp only at hc hd
  subst hc hd
  have hne : b ≠ l := fun z => by subst z; rw [hl] at ho; exact absurd (congrArg Obj.cls (Option.some.inj ho)) (by first | exact l3_ne1 | exact l3_ne2)
  exact rc_eq_decline_or (k := false) ⟨_, ho, rfl⟩ ⟨_, hl, rfl⟩ (by decide) F.sub_dict_tuple F.slot_tuple_eq F.slot_dict_eq_refl
    (fun _ hq => call_meets F.slot_tuple_eq ⟨_, ho, rfl⟩ F.entry_tuple_eq (F.args_tuple_eq_2 _ _) (l3_tuple_eq_dict l es n dd sl b items n2 dd2 sl2) ⟨hl, ho, hq⟩)
    (fun _ hq => call_meets F.slot_dict_eq_refl ⟨_, hl, rfl⟩ F.entry_dict_eq (F.args_dict_eq_2 _ _) (l3_dict_eq_tuple l es n dd sl b items n2 dd2 sl2) ⟨hl, ho, hq⟩)
    (fun _ hq => wpAny_isSame_ref_other' hne ho hl l3_ne2 hq) (.inr hu) h
end
end PySem.SeqAt

namespace L3
open PySem PySem.Spec PyProof.Rows L2 SeqAt
mutual
def D.eqv : D → D → Bool
  | .non, .non => true
  | .bl a, .bl b => a == b
  | .bl a, .int j => (if a then 1 else 0) == j
  | .int i, .bl b => i == (if b then 1 else 0)
  | .int i, .int j => i == j
  | .str x, .str y => x == y
  | .lst xs, .lst ys => D.eqvs xs ys
  | .tup xs, .tup ys => D.eqvs xs ys
  | _, _ => false
def D.eqvs : List D → List D → Bool
  | [], [] => true
  | x :: xs, y :: ys => D.eqv x y && D.eqvs xs ys
  | _, _ => false
end
mutual
def D.depth : D → Nat
  | .lst xs => D.depths xs + 1
  | .tup xs => D.depths xs + 1
  | .dct _ xs => D.depths xs + 1
  | .ins _ _ xs => D.depths xs + 1
  | _ => 0
def D.depths : List D → Nat
  | [] => 0
  | x :: xs => max (D.depth x) (D.depths xs)
end
mutual
/-- without instances -/
def D.noi : D → Bool
  | .lst xs => D.nois xs
  | .tup xs => D.nois xs
  | .dct _ xs => D.nois xs
  | .ins _ _ _ => false
  | _ => true
def D.nois : List D → Bool
  | [] => true
  | x :: xs => D.noi x && D.nois xs
end
mutual
/-- without instances and dicts -/
def D.flat : D → Bool
  | .lst xs => D.flats xs
  | .tup xs => D.flats xs
  | .dct _ _ => false
  | .ins _ _ _ => false
  | _ => true
def D.flats : List D → Bool
  | [] => true
  | x :: xs => D.flat x && D.flats xs
end
/-- the two can be compared by == -/
def eqOk (d e : D) : Bool := d.noi && e.noi && (d.flat || e.flat) && decide (min d.depth e.depth ≤ 150)

/-! data at a value of the heap -/
mutual
inductive Rv (h : Heap) : Value → D → Prop
  | non : Rv h .none .non
  | bl (b : Bool) : Rv h (.bool b) (.bl b)
  | int (i : Int) (t : Tok) : Rv h (.int i t) (.int i)
  | str (x : Str) (t : Tok) : Rv h (.str x t) (.str x)
  | lst {l : Addr} {vs : Array Value} {ds : List D} : h.IsList l vs → Rvs h vs.toList ds → Rv h (.ref l) (.lst ds)
  | tup {l : Addr} {vs : Array Value} {ds : List D} : h.IsTuple l vs → Rvs h vs.toList ds → Rv h (.ref l) (.tup ds)
  | dct {l : Addr} {es : Array DictEntry} {n : Nat} {dd : Option Addr} {sl : Array (Option Value)} {ks : List Key} {ds : List D} : h.get? l = some { cls := .type "dict", dict := dd, data := .dict es n, slots := sl } → Rv h (.ref l) (.dct ks ds)
  | ins {l : Addr} {C : Addr} {fs : List Str} {ds : List D} : Rv h (.ref l) (.ins C fs ds)
inductive Rvs (h : Heap) : List Value → List D → Prop
  | nil : Rvs h [] []
  | cons {v : Value} {d : D} {vs : List Value} {ds : List D} : Rv h v d → Rvs h vs ds → Rvs h (v :: vs) (d :: ds)
end
theorem Rvs.length {h : Heap} : ∀ {vs : List Value} {ds : List D}, Rvs h vs ds → vs.length = ds.length
  | _, _, .nil => rfl
  | _, _, .cons _ r => by simp [Rvs.length r]

section
variable {X : Cx} {pins : List (Addr × Obj)} {σ : St} {H G : Hp} {s : Shared}
mutual
theorem RepD.rv (I : Inv X pins σ H s) (sg : Same G H) : ∀ {d : D} {v : V} {u : Value}, RepD X.K G d v → RelV v u → Rv s.heap u d
  | _, _, _, .non, r => by cases r; exact .non
  | _, _, _, .bl b, r => by cases r; exact .bl b
  | _, _, _, .int i, r => by obtain ⟨t, rfl⟩ := r; exact .int i t
  | _, _, _, .str x, r => by obtain ⟨t, rfl⟩ := r; exact .str x t
  | _, _, _, .tup h q, r => by
    cases r
    obtain ⟨its, rv, p, _⟩ := I.tuple (Same.seqT sg h)
    exact .tup p (RepDs.rv I sg q (by simpa using rv))
  | _, _, _, .lst h q, r => by
    cases r
    obtain ⟨its, rv, p, _⟩ := I.list (.inl (.inl (sg _ _ h)))
    exact .lst p.isList (RepDs.rv I sg q (by simpa using rv))
  | _, _, _, .dct h _ q, r => by
    cases r
    obtain ⟨_, _, vs, _, o, es, ep, h1, h2, h3, _⟩ := (show ObjOk X.prog X.w H s.heap _ (.dK _) from I.hok _ _ (sg _ _ h))
    obtain ⟨cls, dd, data, sl⟩ := o
    have e1 : cls = .type "dict" := h2.1
    have e2 : data = .dict es ep := h3
    subst e1 e2
    exact .dct h1
  | _, _, _, .ins _ h _ q, r => by cases r; exact .ins
  | _, _, _, .scr h q, r => by cases r; exact .ins
theorem RepDs.rv (I : Inv X pins σ H s) (sg : Same G H) : ∀ {ds : List D} {vs : List V} {us : List Value}, RepDs X.K G ds vs → Vals vs us → Rvs s.heap us ds
  | _, _, _, .nil, r => by cases r; exact .nil
  | _, _, _, .cons h q, r => by
    cases r with
    | cons r1 r2 => exact .cons (RepD.rv I sg h r1) (RepDs.rv I sg q r2)
end
theorem DV.rv (I : Inv X pins σ H s) (sg : Same G H) {d : D} {v : V} {u : Value} (h : DV X.K G H d v) (r : RelV v u) : Rv s.heap u d := by
  rcases h with h | ⟨a, vs, xs, rfl, rfl, h1, h2⟩ | ⟨a, ks, vs, xs, rfl, rfl, h1, hl, h2⟩
  · exact h.rv I sg r
  · cases r
    obtain ⟨its, rv, p, _⟩ := I.list (.inl (.inl h1))
    exact .lst p.isList (RepDs.rv I sg h2 (by simpa using rv))
  · cases r
    obtain ⟨_, _, vs', _, o, es, ep, h3, h4, h5, _⟩ := (show ObjOk X.prog X.w H s.heap _ (.dK _) from I.hok _ _ h1)
    obtain ⟨cls, dd, data, sl⟩ := o
    have e1 : cls = .type "dict" := h4.1
    have e2 : data = .dict es ep := h5
    subst e1 e2
    exact .dct h3
end

section
variable {h : Heap}
theorem istup_fun {l : Addr} {vs ws : Array Value} (a : h.IsTuple l vs) (b : h.IsTuple l ws) : vs = ws := by
  obtain ⟨o, h1, _, n, h2⟩ := a
  obtain ⟨o', h1', _, n', h2'⟩ := b
  rw [h1] at h1'; cases h1'
  rw [h2] at h2'; injection h2'
theorem islist_fun {l : Addr} {vs ws : Array Value} (a : h.IsList l vs) (b : h.IsList l ws) : vs = ws := by
  obtain ⟨o, h1, _, n, h2⟩ := a
  obtain ⟨o', h1', _, n', h2'⟩ := b
  rw [h1] at h1'; cases h1'
  rw [h2] at h2'; injection h2'
mutual
/-- the data at a value is one, where neither has a dict -/
theorem Rv.unique : ∀ {u : Value} {d e : D}, Rv h u d → Rv h u e → d.flat = true → e.noi = true → d = e
  | _, _, _, .non, r, _, _ => by cases r; rfl
  | _, _, _, .bl b, r, _, _ => by cases r; rfl
  | _, _, _, .int i t, r, _, _ => by cases r; rfl
  | _, _, _, .str x t, r, _, _ => by cases r; rfl
  | _, _, _, .lst p q, r, f, g => by
    cases r with
    | lst p' q' =>
      have e := islist_fun p p'
      subst e
      rw [Rvs.unique q q' (by simpa [D.flat] using f) (by simpa [D.noi] using g)]
    | tup p' q' =>
      obtain ⟨o, h1, c, _⟩ := p
      obtain ⟨o', h1', c', _⟩ := p'
      rw [h1] at h1'; cases h1'
      rw [c] at c'; exact absurd c' l3_ne3
    | dct p' =>
      obtain ⟨o, h1, c, _⟩ := p
      rw [h1] at p'; cases p'
      exact absurd c l3_ne1
    | ins => simp [D.noi] at g
  | _, _, _, .tup p q, r, f, g => by
    cases r with
    | tup p' q' =>
      have e := istup_fun p p'
      subst e
      rw [Rvs.unique q q' (by simpa [D.flat] using f) (by simpa [D.noi] using g)]
    | lst p' q' =>
      obtain ⟨o, h1, c, _⟩ := p
      obtain ⟨o', h1', c', _⟩ := p'
      rw [h1] at h1'; cases h1'
      rw [c] at c'; exact absurd c'.symm l3_ne3
    | dct p' =>
      obtain ⟨o, h1, c, _⟩ := p
      rw [h1] at p'; cases p'
      exact absurd c l3_ne2
    | ins => simp [D.noi] at g
  | _, _, _, .dct _, _, f, _ => by simp [D.flat] at f
  | _, _, _, .ins, _, f, _ => by simp [D.flat] at f
theorem Rvs.unique : ∀ {us : List Value} {ds es : List D}, Rvs h us ds → Rvs h us es → D.flats ds = true → D.nois es = true → ds = es
  | _, _, _, .nil, r, _, _ => by cases r; rfl
  | _, _, _, .cons a b, r, f, g => by
    cases r with
    | cons a' b' =>
      simp only [D.flats, Bool.and_eq_true] at f
      simp only [D.nois, Bool.and_eq_true] at g
      rw [Rv.unique a a' f.1 g.1, Rvs.unique b b' f.2 g.2]
end
end
mutual
theorem D.eqv_refl : ∀ {d : D}, d.flat = true → D.eqv d d = true
  | .non, _ => rfl
  | .bl b, _ => by simp [D.eqv]
  | .int i, _ => by simp [D.eqv]
  | .str x, _ => by simp [D.eqv]
  | .lst xs, h => by simp only [D.eqv]; exact D.eqvs_refl (by simpa [D.flat] using h)
  | .tup xs, h => by simp only [D.eqv]; exact D.eqvs_refl (by simpa [D.flat] using h)
  | .dct _ _, h => by simp [D.flat] at h
  | .ins _ _ _, h => by simp [D.flat] at h
theorem D.eqvs_refl : ∀ {ds : List D}, D.flats ds = true → D.eqvs ds ds = true
  | [], _ => by simp [D.eqvs]
  | x :: xs, h => by
    simp only [D.flats, Bool.and_eq_true] at h
    simp only [D.eqvs, D.eqv_refl h.1, D.eqvs_refl h.2, Bool.and_self]
end
mutual
theorem D.flat_noi : ∀ {d : D}, d.flat = true → d.noi = true
  | .non, _ => rfl
  | .bl b, _ => rfl
  | .int i, _ => rfl
  | .str x, _ => rfl
  | .lst xs, h => by simp only [D.noi]; exact D.flats_nois (by simpa [D.flat] using h)
  | .tup xs, h => by simp only [D.noi]; exact D.flats_nois (by simpa [D.flat] using h)
  | .dct _ _, h => by simp [D.flat] at h
  | .ins _ _ _, h => by simp [D.flat] at h
theorem D.flats_nois : ∀ {ds : List D}, D.flats ds = true → D.nois ds = true
  | [], _ => rfl
  | x :: xs, h => by
    simp only [D.flats, Bool.and_eq_true] at h
    simp only [D.nois, D.flat_noi h.1, D.flats_nois h.2, Bool.and_self]
end
def pairE : List D → List D → Nat → Bool
  | x :: _, y :: _, 0 => D.eqv x y
  | _ :: xs, _ :: ys, j + 1 => pairE xs ys j
  | _, _, _ => false
theorem eqvs_len : ∀ {xs ys : List D}, xs.length ≠ ys.length → D.eqvs xs ys = false
  | [], [], h => absurd rfl h
  | [], _ :: _, _ => by simp [D.eqvs]
  | _ :: _, [], _ => by simp [D.eqvs]
  | x :: xs, y :: ys, h => by
    simp only [D.eqvs]
    rw [eqvs_len (by simpa using h), Bool.and_false]
theorem eqvs_all : ∀ {xs ys : List D}, xs.length = ys.length → ((List.range xs.length).all (pairE xs ys)) = D.eqvs xs ys
  | [], [], _ => by simp [D.eqvs]
  | [], _ :: _, h => by simp at h
  | _ :: _, [], h => by simp at h
  | x :: xs, y :: ys, h => by
    rw [List.length_cons, List.range_succ_eq_map, List.all_cons, List.all_map]
    simp only [D.eqvs]
    rw [← eqvs_all (by simpa using h)]
    rfl
theorem eqvs_tup (xs ys : List D) : ((List.range (min xs.length ys.length)).all (pairE xs ys) && xs.length == ys.length) = D.eqvs xs ys := by
  by_cases h : xs.length = ys.length
  · rw [h, Nat.min_self, ← h, eqvs_all h]; simp [h]
  · rw [eqvs_len h]; simp [h]

def eqS (d e : D) : Prop := d.noi = true ∧ e.noi = true ∧ (d.flat = true ∨ e.flat = true)
def eqSs (d e : List D) : Prop := D.nois d = true ∧ D.nois e = true ∧ (D.flats d = true ∨ D.flats e = true)
theorem Rv.uniq {h : Heap} {u : Value} {d e : D} (a : Rv h u d) (b : Rv h u e) (o : eqS d e) : d = e ∧ d.flat = true := by
  rcases o with ⟨h1, h2, h3 | h3⟩
  · exact ⟨a.unique b h3 h2, h3⟩
  · have := b.unique a h3 h1
    subst this
    exact ⟨rfl, h3⟩
theorem hu0 {A : Around} {m n : Nat} (h : A.units + min (m + 1) n < cLine) : A.units < cLine := by omega
theorem ref_ne {l m : Addr} (h : l ≠ m) : (Value.ref l == Value.ref m) = false := by
  rw [beq_eq_false_iff_ne]
  exact fun z => h (Value.ref.inj z)
theorem dict_list_ne {h : Heap} {l b : Addr} {es : Array DictEntry} {n : Nat} {dd : Option Addr} {sl : Array (Option Value)} {vs : Array Value} (p : h.get? l = some { cls := .type "dict", dict := dd, data := .dict es n, slots := sl }) (q : h.IsList b vs) : b ≠ l := fun z => by
  subst z
  obtain ⟨o, h1, c, _⟩ := q
  rw [h1] at p; cases p
  exact absurd c l3_ne1
theorem dict_tup_ne {h : Heap} {l b : Addr} {es : Array DictEntry} {n : Nat} {dd : Option Addr} {sl : Array (Option Value)} {vs : Array Value} (p : h.get? l = some { cls := .type "dict", dict := dd, data := .dict es n, slots := sl }) (q : h.IsTuple b vs) : b ≠ l := fun z => by
  subst z
  obtain ⟨o, h1, c, _⟩ := q
  rw [h1] at p; cases p
  exact absurd c l3_ne2
section
variable {s : Shared}
mutual
theorem Rv.eqAt : ∀ {d e : D} {A : Around} {a b : Value}, Rv s.heap a d → Rv s.heap b e → eqS d e → A.units + min d.depth e.depth < cLine → EqAt A s a b (D.eqv d e)
  | .non, e, A, _, b, ra, rb, ok, hu => by
    cases ra
    cases rb with
    | non => exact EqAt.same _
    | bl y => exact EqAt.none_bool y
    | int y u => exact EqAt.none_int y u
    | str y u => exact EqAt.none_str y u
    | lst p q => exact EqAt.none_list p (by simp [D.depth] at hu; omega)
    | tup p q => exact EqAt.none_tuple p (by simp [D.depth] at hu; omega)
    | dct p => exact l3_eqAt_of_rc rfl (fun _ _ z => nomatch z) (l3_rc_none_dict p (by simp [D.depth] at hu; omega))
    | ins => exact absurd ok.2.1 (by simp [D.noi])
  | .bl x, e, A, _, b, ra, rb, ok, hu => by
    cases ra
    cases rb with
    | non => exact EqAt.bool_none x
    | bl y => exact EqAt.bool_bool x y
    | int y u => exact EqAt.bool_int x y u
    | str y u => exact EqAt.bool_str x y u
    | lst p q => exact EqAt.bool_list x p (by simp [D.depth] at hu; omega)
    | tup p q => exact EqAt.bool_tuple x p (by simp [D.depth] at hu; omega)
    | dct p => exact l3_eqAt_of_rc rfl (fun _ _ z => nomatch z) (l3_rc_bool_dict x p (by simp [D.depth] at hu; omega))
    | ins => exact absurd ok.2.1 (by simp [D.noi])
  | .int x, e, A, _, b, ra, rb, ok, hu => by
    cases ra with
    | int _ t =>
      cases rb with
      | non => exact EqAt.int_none x t
      | bl y => exact EqAt.int_bool x t y
      | int y u => exact EqAt.int_int x t y u
      | str y u => exact EqAt.int_str x t y u
      | lst p q => exact EqAt.int_list x t p (by simp [D.depth] at hu; omega)
      | tup p q => exact EqAt.int_tuple x t p (by simp [D.depth] at hu; omega)
      | dct p => exact l3_eqAt_of_rc rfl (fun _ _ z => nomatch z) (l3_rc_int_dict x t p (by simp [D.depth] at hu; omega))
      | ins => exact absurd ok.2.1 (by simp [D.noi])
  | .str x, e, A, _, b, ra, rb, ok, hu => by
    cases ra with
    | str _ t =>
      cases rb with
      | non => exact EqAt.str_none x t
      | bl y => exact EqAt.str_bool x t y
      | int y u => exact EqAt.str_int x t y u
      | str y u => exact EqAt.str_str x t y u
      | lst p q => exact EqAt.str_list x t p (by simp [D.depth] at hu; omega)
      | tup p q => exact EqAt.str_tuple x t p (by simp [D.depth] at hu; omega)
      | dct p => exact l3_eqAt_of_rc rfl (fun _ _ z => nomatch z) (l3_rc_str_dict x t p (by simp [D.depth] at hu; omega))
      | ins => exact absurd ok.2.1 (by simp [D.noi])
  | .lst xs, e, A, _, b, ra, rb, ok, hu => by
    have hu1 : A.units < cLine := by omega
    cases ra with
    | @lst l vs _ p q =>
      have p0 := p
      cases rb with
      | non => exact EqAt.list_none p hu1
      | bl y => exact EqAt.list_bool y p hu1
      | int y u => exact EqAt.list_int y u p hu1
      | str y u => exact EqAt.list_str y u p hu1
      | tup p' q' => exact EqAt.list_tuple p p' hu1
      | dct p' => exact l3_eqAt_of_rc (ref_ne (dict_list_ne p' p)) (fun _ _ z => nomatch z) (l3_rc_list_dict p' p hu1)
      | ins => exact absurd ok.2.1 (by simp [D.noi])
      | @lst l' vs' ys p' q' =>
        by_cases hll : l = l'
        · subst hll
          obtain ⟨e1, f⟩ := Rv.uniq (.lst p q) (.lst p' q') ok
          rw [← e1, D.eqv_refl f]
          exact EqAt.same _
        · have n1 : vs.size = xs.length := by simpa using q.length
          have n2 : vs'.size = ys.length := by simpa using q'.length
          show EqAt A s (.ref l) (.ref l') (D.eqvs xs ys)
          by_cases hsz : vs.size = vs'.size
          · rw [← eqvs_all (by omega : xs.length = ys.length), ← n1]
            refine EqAt.of_refs hll (RcAt.lists p p' hsz hu1 fun j j1 j2 => ?_)
            have := Rvs.eqAt q q' (A := A.in1) (by simpa [eqS, eqSs, D.noi, D.flat] using ok) (by simp only [D.depth] at hu; show A.units + 1 + _ < cLine; omega) j (by simpa using j1) (by simpa using j2)
            simpa using this
          · rw [eqvs_len (by omega : xs.length ≠ ys.length)]
            exact EqAt.of_refs hll (RcAt.lists_lengths p p' (by simpa using hsz) hu1)
  | .tup xs, e, A, _, b, ra, rb, ok, hu => by
    have hu1 : A.units < cLine := by omega
    cases ra with
    | @tup l vs _ p q =>
      cases rb with
      | non => exact EqAt.tuple_none p hu1
      | bl y => exact EqAt.tuple_bool y p hu1
      | int y u => exact EqAt.tuple_int y u p hu1
      | str y u => exact EqAt.tuple_str y u p hu1
      | lst p' q' => exact EqAt.tuple_list p p' hu1
      | dct p' => exact l3_eqAt_of_rc (ref_ne (dict_tup_ne p' p)) (fun _ _ z => nomatch z) (l3_rc_tuple_dict p' p hu1)
      | ins => exact absurd ok.2.1 (by simp [D.noi])
      | @tup l' vs' ys p' q' =>
        by_cases hll : l = l'
        · subst hll
          obtain ⟨e1, f⟩ := Rv.uniq (.tup p q) (.tup p' q') ok
          rw [← e1, D.eqv_refl f]
          exact EqAt.same _
        · have n1 : vs.size = xs.length := by simpa using q.length
          have n2 : vs'.size = ys.length := by simpa using q'.length
          show EqAt A s (.ref l) (.ref l') (D.eqvs xs ys)
          rw [← eqvs_tup xs ys, ← n1, ← n2]
          refine EqAt.of_refs hll (RcAt.tuples p p' hu1 fun j j1 j2 => ?_)
          have := Rvs.eqAt q q' (A := A.in1) (by simpa [eqS, eqSs, D.noi, D.flat] using ok) (by simp only [D.depth] at hu; show A.units + 1 + _ < cLine; omega) j (by simpa using j1) (by simpa using j2)
          simpa using this
  | .dct ks xs, e, A, _, b, ra, rb, ok, hu => by
    have hu1 : A.units < cLine := by omega
    cases ra with
    | @dct l es n dd sl _ _ p =>
      cases rb with
      | non => exact l3_eqAt_of_rc rfl (fun _ _ z => nomatch z) (l3_rc_dict_none p hu1)
      | bl y => exact l3_eqAt_of_rc rfl (fun _ _ z => nomatch z) (l3_rc_dict_bool y p hu1)
      | int y u => exact l3_eqAt_of_rc rfl (fun _ _ z => nomatch z) (l3_rc_dict_int y u p hu1)
      | str y u => exact l3_eqAt_of_rc rfl (fun _ _ z => nomatch z) (l3_rc_dict_str y u p hu1)
      | lst p' q' => exact l3_eqAt_of_rc (ref_ne (Ne.symm (dict_list_ne p p'))) (fun _ _ z => nomatch z) (l3_rc_dict_list p p' hu1)
      | tup p' q' => exact l3_eqAt_of_rc (ref_ne (Ne.symm (dict_tup_ne p p'))) (fun _ _ z => nomatch z) (l3_rc_dict_tuple p p' hu1)
      | dct p' =>
        rcases ok.2.2 with z | z
        · simp [D.flat] at z
        · simp [D.flat] at z
      | ins => exact absurd ok.2.1 (by simp [D.noi])
  | .ins _ _ _, _, _, _, _, _, _, ok, _ => absurd ok.1 (by simp [D.noi])
theorem Rvs.eqAt : ∀ {xs ys : List D} {A : Around} {vs ws : List Value}, Rvs s.heap vs xs → Rvs s.heap ws ys → eqSs xs ys → A.units + min (D.depths xs) (D.depths ys) < cLine →
    ∀ j (h1 : j < vs.length) (h2 : j < ws.length), EqAt A s vs[j] ws[j] (pairE xs ys j)
  | [], _, _, _, _, ra, _, _, _, j, h1, _ => by cases ra; exact absurd h1 (Nat.not_lt_zero _)
  | _ :: _, [], _, _, _, _, rb, _, _, j, _, h2 => by cases rb; exact absurd h2 (Nat.not_lt_zero _)
  | x :: xs, y :: ys, A, _, _, ra, rb, ok, hu, j, h1, h2 => by
    cases ra with
    | cons r rs =>
      cases rb with
      | cons r' rs' =>
        obtain ⟨k1, k2, k3⟩ := ok
        simp only [D.nois, D.flats, Bool.and_eq_true] at k1 k2 k3
        simp only [D.depths] at hu
        cases j with
        | zero => exact Rv.eqAt r r' ⟨k1.1, k2.1, k3.imp (·.1) (·.1)⟩ (by omega)
        | succ j => exact Rvs.eqAt rs rs' ⟨k1.2, k2.2, k3.imp (·.2) (·.2)⟩ (by omega) j (Nat.lt_of_succ_lt_succ h1) (Nat.lt_of_succ_lt_succ h2)
end
end
end L3

/-! L3: operators, comparisons, subscripts, built-in calls over data -/
namespace L3
open PySem PySem.Spec PyProof.Rows L2 SeqAt

/-! ### == and != -/
section
variable {s : Shared} {A : Around} {a b : Value}
theorem Rv.rcEq {d e : D} (ra : Rv s.heap a d) (rb : Rv s.heap b e) (ok : eqS d e) (hu : A.units + min d.depth e.depth < cLine) : RcAt A s a b (D.eqv d e) := by
  have hu1 : A.units < cLine := by omega
  cases ra with
  | non =>
    cases rb with
    | non => exact RcAt.none_none
    | bl y => exact RcAt.none_bool y
    | int y u => exact RcAt.none_int y u
    | str y u => exact RcAt.none_str y u
    | lst p q => exact RcAt.none_list p hu1
    | tup p q => exact RcAt.none_tuple p hu1
    | dct p => exact l3_rc_none_dict p hu1
    | ins => exact absurd ok.2.1 (by simp [D.noi])
  | bl x =>
    cases rb with
    | non => exact RcAt.bool_none x
    | bl y => exact RcAt.bool_bool x y
    | int y u => exact RcAt.bool_int x y u
    | str y u => exact RcAt.bool_str x y u
    | lst p q => exact RcAt.bool_list x p hu1
    | tup p q => exact RcAt.bool_tuple x p hu1
    | dct p => exact l3_rc_bool_dict x p hu1
    | ins => exact absurd ok.2.1 (by simp [D.noi])
  | int x t =>
    cases rb with
    | non => exact RcAt.int_none x t
    | bl y => exact RcAt.int_bool x t y
    | int y u => exact RcAt.int_int x t y u
    | str y u => exact RcAt.int_str x t y u
    | lst p q => exact RcAt.int_list x t p hu1
    | tup p q => exact RcAt.int_tuple x t p hu1
    | dct p => exact l3_rc_int_dict x t p hu1
    | ins => exact absurd ok.2.1 (by simp [D.noi])
  | str x t =>
    cases rb with
    | non => exact RcAt.str_none x t
    | bl y => exact RcAt.str_bool x t y
    | int y u => exact RcAt.str_int x t y u
    | str y u => exact RcAt.str_str x t y u
    | lst p q => exact RcAt.str_list x t p hu1
    | tup p q => exact RcAt.str_tuple x t p hu1
    | dct p => exact l3_rc_str_dict x t p hu1
    | ins => exact absurd ok.2.1 (by simp [D.noi])
  | @lst l vs xs p q =>
    cases rb with
    | non => exact RcAt.list_none p hu1
    | bl y => exact RcAt.list_bool y p hu1
    | int y u => exact RcAt.list_int y u p hu1
    | str y u => exact RcAt.list_str y u p hu1
    | tup p' q' => exact RcAt.list_tuple p p' hu1
    | dct p' => exact l3_rc_list_dict p' p hu1
    | ins => exact absurd ok.2.1 (by simp [D.noi])
    | @lst l' vs' ys p' q' =>
      have n1 : vs.size = xs.length := by simpa using q.length
      have n2 : vs'.size = ys.length := by simpa using q'.length
      show RcAt A s (.ref l) (.ref l') (D.eqvs xs ys)
      by_cases hsz : vs.size = vs'.size
      · rw [← eqvs_all (by omega : xs.length = ys.length), ← n1]
        refine RcAt.lists p p' hsz hu1 fun j j1 j2 => ?_
        have := Rvs.eqAt q q' (A := A.in1) (by simpa [eqS, eqSs, D.noi, D.flat] using ok) (by simp only [D.depth] at hu; show A.units + 1 + _ < cLine; omega) j (by simpa using j1) (by simpa using j2)
        simpa using this
      · rw [eqvs_len (by omega : xs.length ≠ ys.length)]
        exact RcAt.lists_lengths p p' (by simpa using hsz) hu1
  | @tup l vs xs p q =>
    cases rb with
    | non => exact RcAt.tuple_none p hu1
    | bl y => exact RcAt.tuple_bool y p hu1
    | int y u => exact RcAt.tuple_int y u p hu1
    | str y u => exact RcAt.tuple_str y u p hu1
    | lst p' q' => exact RcAt.tuple_list p p' hu1
    | dct p' => exact l3_rc_tuple_dict p' p hu1
    | ins => exact absurd ok.2.1 (by simp [D.noi])
    | @tup l' vs' ys p' q' =>
      have n1 : vs.size = xs.length := by simpa using q.length
      have n2 : vs'.size = ys.length := by simpa using q'.length
      show RcAt A s (.ref l) (.ref l') (D.eqvs xs ys)
      rw [← eqvs_tup xs ys, ← n1, ← n2]
      refine RcAt.tuples p p' hu1 fun j j1 j2 => ?_
      have := Rvs.eqAt q q' (A := A.in1) (by simpa [eqS, eqSs, D.noi, D.flat] using ok) (by simp only [D.depth] at hu; show A.units + 1 + _ < cLine; omega) j (by simpa using j1) (by simpa using j2)
      simpa using this
  | @dct l es n dd sl _ _ p =>
    cases rb with
    | non => exact l3_rc_dict_none p hu1
    | bl y => exact l3_rc_dict_bool y p hu1
    | int y u => exact l3_rc_dict_int y u p hu1
    | str y u => exact l3_rc_dict_str y u p hu1
    | lst p' q' => exact l3_rc_dict_list p p' hu1
    | tup p' q' => exact l3_rc_dict_tuple p p' hu1
    | dct p' =>
      rcases ok.2.2 with z | z
      · simp [D.flat] at z
      · simp [D.flat] at z
    | ins => exact absurd ok.2.1 (by simp [D.noi])
  | ins => exact absurd ok.1 (by simp [D.noi])
def D.isDct : D → Bool
  | .dct _ _ => true
  | _ => false
theorem Rv.rcNe {d e : D} (ra : Rv s.heap a d) (rb : Rv s.heap b e) (ok : eqS d e) (hd : d.isDct = false) (he : e.isDct = false) (hu : A.units + min d.depth e.depth < cLine) : RcNeAt A s a b (!D.eqv d e) := by
  have hu1 : A.units < cLine := by omega
  cases ra with
  | non =>
    cases rb with
    | non => exact RcNeAt.none_none
    | bl y => exact RcNeAt.none_bool y
    | int y u => exact RcNeAt.none_int y u
    | str y u => exact RcNeAt.none_str y u
    | lst p q => exact RcNeAt.none_list p hu1
    | tup p q => exact RcNeAt.none_tuple p hu1
    | dct p => cases he
    | ins => exact absurd ok.2.1 (by simp [D.noi])
  | bl x =>
    cases rb with
    | non => exact RcNeAt.bool_none x
    | bl y => exact RcNeAt.bool_bool x y
    | int y u => exact RcNeAt.bool_int x y u
    | str y u => exact RcNeAt.bool_str x y u
    | lst p q => exact RcNeAt.bool_list x p hu1
    | tup p q => exact RcNeAt.bool_tuple x p hu1
    | dct p => cases he
    | ins => exact absurd ok.2.1 (by simp [D.noi])
  | int x t =>
    cases rb with
    | non => exact RcNeAt.int_none x t
    | bl y => exact RcNeAt.int_bool x t y
    | int y u => exact RcNeAt.int_int x t y u
    | str y u => exact RcNeAt.int_str x t y u
    | lst p q => exact RcNeAt.int_list x t p hu1
    | tup p q => exact RcNeAt.int_tuple x t p hu1
    | dct p => cases he
    | ins => exact absurd ok.2.1 (by simp [D.noi])
  | str x t =>
    cases rb with
    | non => exact RcNeAt.str_none x t
    | bl y => exact RcNeAt.str_bool x t y
    | int y u => exact RcNeAt.str_int x t y u
    | str y u => exact RcNeAt.str_str x t y u
    | lst p q => exact RcNeAt.str_list x t p hu1
    | tup p q => exact RcNeAt.str_tuple x t p hu1
    | dct p => cases he
    | ins => exact absurd ok.2.1 (by simp [D.noi])
  | @lst l vs xs p q =>
    cases rb with
    | non => exact RcNeAt.list_none p hu1
    | bl y => exact RcNeAt.list_bool y p hu1
    | int y u => exact RcNeAt.list_int y u p hu1
    | str y u => exact RcNeAt.list_str y u p hu1
    | tup p' q' => exact RcNeAt.list_tuple p p' hu1
    | dct p => cases he
    | ins => exact absurd ok.2.1 (by simp [D.noi])
    | @lst l' vs' ys p' q' =>
      have n1 : vs.size = xs.length := by simpa using q.length
      have n2 : vs'.size = ys.length := by simpa using q'.length
      show RcNeAt A s (.ref l) (.ref l') (!D.eqvs xs ys)
      by_cases hsz : vs.size = vs'.size
      · rw [← eqvs_all (by omega : xs.length = ys.length), ← n1]
        refine RcNeAt.lists p p' hsz hu1 fun j j1 j2 => ?_
        have := Rvs.eqAt q q' (A := A.in1) (by simpa [eqS, eqSs, D.noi, D.flat] using ok) (by simp only [D.depth] at hu; show A.units + 1 + _ < cLine; omega) j (by simpa using j1) (by simpa using j2)
        simpa using this
      · rw [eqvs_len (by omega : xs.length ≠ ys.length)]
        exact RcNeAt.lists_lengths p p' (by simpa using hsz) hu1
  | @tup l vs xs p q =>
    cases rb with
    | non => exact RcNeAt.tuple_none p hu1
    | bl y => exact RcNeAt.tuple_bool y p hu1
    | int y u => exact RcNeAt.tuple_int y u p hu1
    | str y u => exact RcNeAt.tuple_str y u p hu1
    | lst p' q' => exact RcNeAt.tuple_list p p' hu1
    | dct p => cases he
    | ins => exact absurd ok.2.1 (by simp [D.noi])
    | @tup l' vs' ys p' q' =>
      have n1 : vs.size = xs.length := by simpa using q.length
      have n2 : vs'.size = ys.length := by simpa using q'.length
      show RcNeAt A s (.ref l) (.ref l') (!D.eqvs xs ys)
      rw [← eqvs_tup xs ys, ← n1, ← n2]
      refine RcNeAt.tuples p p' hu1 fun j j1 j2 => ?_
      have := Rvs.eqAt q q' (A := A.in1) (by simpa [eqS, eqSs, D.noi, D.flat] using ok) (by simp only [D.depth] at hu; show A.units + 1 + _ < cLine; omega) j (by simpa using j1) (by simpa using j2)
      simpa using this
  | dct p => cases hd
  | ins => exact absurd ok.1 (by simp [D.noi])
end
theorem eqS_of {d e : D} (h : eqOk d e = true) : eqS d e ∧ min d.depth e.depth ≤ 150 := by
  simp only [eqOk, Bool.and_eq_true, Bool.or_eq_true, decide_eq_true_eq] at h
  exact ⟨⟨h.1.1.1, h.1.1.2, h.1.2⟩, h.2⟩
def rEq3 (K : PySem.W.Frag) : R2 := fun x y H Q => ∃ (G : Hp) (d e : D), Same G H ∧ DV K G H d x ∧ DV K G H e y ∧ eqOk d e = true ∧ Q (.bl (D.eqv d e)) H
def rNe3 (K : PySem.W.Frag) : R2 := fun x y H Q => ∃ (G : Hp) (d e : D), Same G H ∧ DV K G H d x ∧ DV K G H e y ∧ (eqOk d e && !d.isDct && !e.isDct) = true ∧ Q (.bl (!D.eqv d e)) H
section
variable {X : Cx}
theorem op_eq3 (hu : X.A.units + 200 < cLine) : OpR X (compareOp .Eq) (rEq3 X.K) := by
  intro pins s σ H x y v u Q I rx ry ⟨G, d, e, sg, hd, he, ok, q⟩
  obtain ⟨o1, o2⟩ := eqS_of ok
  exact Rv.rcEq (A := X.A) (hd.rv I sg rx) (he.rv I sg ry) o1 (by omega) X.prog X.w _ _ ⟨.bl _, H, I, rfl, q⟩
theorem op_ne3 (hu : X.A.units + 200 < cLine) : OpR X (compareOp .NotEq) (rNe3 X.K) := by
  intro pins s σ H x y v u Q I rx ry ⟨G, d, e, sg, hd, he, ok, q⟩
  simp only [Bool.and_eq_true, Bool.not_eq_true'] at ok
  obtain ⟨o1, o2⟩ := eqS_of ok.1.1
  exact Rv.rcNe (A := X.A) (hd.rv I sg rx) (he.rv I sg ry) o1 ok.1.2 ok.2 (by omega) X.prog X.w _ _ ⟨.bl _, H, I, rfl, q⟩
end
def r3Eq : R3 := fun d e Q => eqOk d e = true ∧ Q (.d (.bl (D.eqv d e)))
def r3Ne : R3 := fun d e Q => (eqOk d e && !d.isDct && !e.isDct) = true ∧ Q (.d (.bl (!D.eqv d e)))
section
variable {K : PySem.W.Frag}
theorem o3_eq : Op3 K (rEq3 K) r3Eq := fun G H d1 d2 x y Qr Q sg h1 h2 ⟨ok, q⟩ k => ⟨G, d1, d2, sg, h1, h2, ok, k _ _ _ _ (.d (.bl _)) q⟩
theorem o3_ne : Op3 K (rNe3 K) r3Ne := fun G H d1 d2 x y Qr Q sg h1 h2 ⟨ok, q⟩ k => ⟨G, d1, d2, sg, h1, h2, ok, k _ _ _ _ (.d (.bl _)) q⟩
/-! ### ints -/
def r3I (C : Int → Int → Prop) (g : Int → Int → D) : R3 := fun d e Q => ∃ i j, d = .int i ∧ e = .int j ∧ C i j ∧ Q (.d (g i j))
theorem o3_int {C : Int → Int → Prop} {g : Int → Int → Int} : Op3 K (rI C fun i j => .int (g i j)) (r3I C fun i j => .int (g i j)) := by
  rintro G H d1 d2 x y Qr Q sg h1 h2 ⟨i, j, rfl, rfl, hc, q⟩ k
  exact ⟨i, j, h1.int, h2.int, hc, k _ _ _ _ (.d (.int _)) q⟩
theorem o3_int0 {g : Int → Int → Int} : Op3 K (rI0 fun i j => .int (g i j)) (r3I (fun _ _ => True) fun i j => .int (g i j)) := by
  rintro G H d1 d2 x y Qr Q sg h1 h2 ⟨i, j, rfl, rfl, hc, q⟩ k
  exact ⟨i, j, h1.int, h2.int, k _ _ _ _ (.d (.int _)) q⟩
theorem o3_bl0 {g : Int → Int → Bool} : Op3 K (rI0 fun i j => .bl (g i j)) (r3I (fun _ _ => True) fun i j => .bl (g i j)) := by
  rintro G H d1 d2 x y Qr Q sg h1 h2 ⟨i, j, rfl, rfl, hc, q⟩ k
  exact ⟨i, j, h1.int, h2.int, k _ _ _ _ (.d (.bl _)) q⟩
abbrev r3Add : R3 := r3I (fun _ _ => True) fun i j => .int (i + j)
abbrev r3Sub : R3 := r3I (fun _ _ => True) fun i j => .int (i - j)
abbrev r3Mul : R3 := r3I CMul fun i j => .int (i * j)
abbrev r3Mod : R3 := r3I (fun _ j => 0 < j) fun i j => .int (i % j)
abbrev r3Div : R3 := r3I CDiv fun i j => .int (i / j)
abbrev r3Pow : R3 := r3I CPow fun i j => .int (i ^ j.toNat)
abbrev r3Lt : R3 := r3I (fun _ _ => True) fun i j => .bl (decide (i < j))
abbrev r3Le : R3 := r3I (fun _ _ => True) fun i j => .bl (decide (i ≤ j))
abbrev r3Gt : R3 := r3I (fun _ _ => True) fun i j => .bl (decide (j < i))
abbrev r3Ge : R3 := r3I (fun _ _ => True) fun i j => .bl (decide (j ≤ i))
/-! ### is -/
def D.isNon : D → Bool
  | .non => true
  | _ => false
def r3IsN : R3 := fun d e Q => e = .non ∧ Q (.d (.bl d.isNon))
def r3NotN : R3 := fun d e Q => e = .non ∧ Q (.d (.bl (!d.isNon)))
theorem dv_non {G H : Hp} {d : D} {x : V} (h : DV K G H d x) : (decide (x = .non)) = d.isNon := by
  rcases h with h | ⟨a, vs, xs, rfl, rfl, _⟩ | ⟨a, ks, vs, xs, rfl, rfl, _⟩
  · cases h <;> simp [D.isNon]
  · simp [D.isNon]
  · simp [D.isNon]
theorem o3_isN : Op3 K (fun x y H Q => y = .non ∧ Q (.bl (decide (x = .non))) H) r3IsN := by
  rintro G H d1 d2 x y Qr Q sg h1 h2 ⟨rfl, q⟩ k
  refine ⟨h2.non, ?_⟩
  rw [dv_non h1]
  exact k _ _ _ _ (.d (.bl _)) q
theorem o3_notN : Op3 K (fun x y H Q => y = .non ∧ Q (.bl (!decide (x = .non))) H) r3NotN := by
  rintro G H d1 d2 x y Qr Q sg h1 h2 ⟨rfl, q⟩ k
  refine ⟨h2.non, ?_⟩
  rw [dv_non h1]
  exact k _ _ _ _ (.d (.bl _)) q
def r3IsB : R3 := fun d e Q => ∃ a b, d = .bl a ∧ e = .bl b ∧ Q (.d (.bl (decide (a = b))))
def r3NotB : R3 := fun d e Q => ∃ a b, d = .bl a ∧ e = .bl b ∧ Q (.d (.bl (!decide (a = b))))
theorem o3_isB : Op3 K rIsB r3IsB := by
  rintro G H d1 d2 x y Qr Q sg h1 h2 ⟨a, b, rfl, rfl, q⟩ k
  exact ⟨a, b, h1.bl, h2.bl, k _ _ _ _ (.d (.bl _)) q⟩
theorem o3_notB : Op3 K rNotB r3NotB := by
  rintro G H d1 d2 x y Qr Q sg h1 h2 ⟨a, b, rfl, rfl, q⟩ k
  exact ⟨a, b, h1.bl, h2.bl, k _ _ _ _ (.d (.bl _)) q⟩
/-! ### texts -/
def r3AddS : R3 := fun d e Q => ∃ a b, d = .str a ∧ e = .str b ∧ a.length + b.length ≤ sizeLine ∧ Q (.d (.str (a ++ b)))
theorem o3_addS : Op3 K (fun x y H Q => ∃ i j, x = .str i ∧ y = .str j ∧ i.length + j.length ≤ sizeLine ∧ Q (.str (i ++ j)) H) r3AddS := by
  rintro G H d1 d2 x y Qr Q sg h1 h2 ⟨a, b, rfl, rfl, hl, q⟩ k
  exact ⟨a, b, h1.str, h2.str, hl, k _ _ _ _ (.d (.str _)) q⟩
/-! ### lists, tuples -/
def r3AddL : R3 := fun d e Q => ∃ xs ys, d = .lst xs ∧ e = .lst ys ∧ xs.length + ys.length ≤ 1000000 ∧ Q (.tl (xs ++ ys))
theorem o3_addL : Op3 K rCat r3AddL := by
  rintro G H d1 d2 x y Qr Q sg h1 h2 ⟨xs, ys, rfl, rfl, hl, q⟩ k
  obtain ⟨a, vs, rfl, ha, ra⟩ := h1.lst sg
  obtain ⟨b, ws, rfl, hb, rb⟩ := h2.lst sg
  have l1 := ra.length
  have l2 := rb.length
  refine ⟨a, b, vs, ws, rfl, rfl, ha, hb, Nat.le_trans (by omega) mil, fun p hp => k _ _ _ _ (.nl hp (ra.append rb)) q⟩
def r3AddT : R3 := fun d e Q => ∃ xs ys, d = .tup xs ∧ e = .tup ys ∧ xs.length + ys.length ≤ 1000000 ∧ Q (.d (.tup (xs ++ ys)))
theorem o3_addT : Op3 K (rCatA K) r3AddT := by
  rintro G H d1 d2 x y Qr Q sg h1 h2 ⟨xs, ys, rfl, rfl, hl, q⟩ k
  obtain ⟨a, vs, rfl, ha, ra⟩ := h1.tup sg
  obtain ⟨b, ws, rfl, hb, rb⟩ := h2.tup sg
  have l1 := ra.length
  have l2 := rb.length
  have k1 : RepD K G (.tup xs) (.ref a) := by
    rcases h1 with h | ⟨_, _, _, h, _⟩ | ⟨_, _, _, _, h, _⟩
    · exact h
    · cases h
    · cases h
  have k2 : RepD K G (.tup ys) (.ref b) := by
    rcases h2 with h | ⟨_, _, _, h, _⟩ | ⟨_, _, _, _, h, _⟩
    · exact h
    · cases h
    · cases h
  refine ⟨a, b, vs, ws, rfl, rfl, ha, hb, Nat.le_trans (by omega) mil, fun z => ?_, fun _ z => ?_, fun _ _ p hp => k _ _ _ _ (.nt hp (ra.append rb)) q⟩
  · subst z
    have : xs = [] := List.eq_nil_of_length_eq_zero (by simpa using l1)
    subst this
    exact k _ _ _ _ (.d k2) (by simpa using q)
  · subst z
    have : ys = [] := List.eq_nil_of_length_eq_zero (by simpa using l2)
    subst this
    exact k _ _ _ _ (.d k1) (by simpa using q)
def repD (n : Nat) (xs : List D) : List D := (List.replicate n xs).flatten
theorem RepDs.rep {G : Hp} {xs : List D} {vs : List V} (h : RepDs K G xs vs) : ∀ n : Nat, RepDs K G (repD n xs) (List.replicate n vs).flatten
  | 0 => .nil
  | n + 1 => by
    unfold repD
    rw [List.replicate_succ, List.replicate_succ, List.flatten_cons, List.flatten_cons]
    exact h.append (RepDs.rep h n)
def r3MulL : R3 := fun d e Q => ∃ xs i, d = .lst xs ∧ e = .int i ∧ -(2 ^ 63) ≤ i ∧ i < 2 ^ 63 ∧ xs.length * i.toNat ≤ 1000000 ∧ Q (.tl (repD i.toNat xs))
/-! ### subscripts -/
def r3Ix : R3 := fun d e Q => ∃ i : Int, e = .int i ∧ ((∃ xs x, d = .lst xs ∧ atI xs i = some x ∧ Q (.d x)) ∨ (∃ xs x, d = .tup xs ∧ atI xs i = some x ∧ Q (.d x)) ∨
  ∃ (z : Str) (c : Nat), d = .str z ∧ z.length ≤ sizeLine ∧ atI z.cps.toList i = some c ∧ Q (.d (.str ⟨#[c]⟩)))
theorem RepDs.atI {G : Hp} {xs : List D} {vs : List V} {i : Int} {x : D} (h : RepDs K G xs vs) (e : L2.atI xs i = some x) : ∃ v, L2.atI vs i = some v ∧ RepD K G x v := by
  unfold L2.atI at e ⊢
  rw [← h.length]
  cases q : ixN xs.length i with
  | none => rw [q] at e; cases e
  | some j =>
    rw [q] at e
    exact h.get' e
theorem o3_ix : Op3 K (rIx K) r3Ix := by
  rintro G H d1 d2 x y Qr Q sg h1 h2 ⟨i, rfl, h⟩ k
  have e2 := h2.int
  rcases h with ⟨xs, z, rfl, hz, q⟩ | ⟨xs, z, rfl, hz, q⟩ | ⟨z, c, rfl, hl, hz, q⟩
  · obtain ⟨a, vs, rfl, ha, ra⟩ := h1.lst sg
    obtain ⟨v, hv, rv⟩ := ra.atI hz
    exact .inl ⟨a, vs, i, v, rfl, e2, .inl (.inl ha), hv, k _ _ _ _ (.d rv) q⟩
  · obtain ⟨a, vs, rfl, ha, ra⟩ := h1.tup sg
    obtain ⟨v, hv, rv⟩ := ra.atI hz
    exact .inr (.inl ⟨a, vs, i, v, rfl, e2, ha, hv, k _ _ _ _ (.d rv) q⟩)
  · exact .inr (.inr ⟨z, i, c, h1.str, e2, hl, hz, k _ _ _ _ (.d (.str _)) q⟩)
end
end L3

/-! L3: statements, loops, comprehensions -/
namespace L3
open PySem PySem.Spec PyProof.Rows L2

structure EndsD where
  nx : List S → Prop
  rt : D → List S → Prop
  bk : List S → Prop := fun _ => False
  ct : List S → Prop := fun _ => False
abbrev TDS := XD → EndsD → List S → Prop
structure Fin (K : PySem.W.Frag) (c : C0) (W : WX) (Dx : Ends) (De : EndsD) (Xd : XD) (G : Hp) : Prop where
  nx : ∀ (σ' : St) (G' H' : Hp) (e' : List S), Rel K c G' H' σ' e' → Same G G' → De.nx e' → Dx.nx σ' H'
  rt : ∀ (d : D) (v : V) (σ' : St) (G' H' : Hp) (e' : List S), Rel K c G' H' σ' e' → Same G G' → RepD K G' d v → De.rt d e' → Dx.rt v H'
  bk : ∀ (σ' : St) (G' H' : Hp) (e' : List S), Rel K c G' H' σ' e' → Same G G' → De.bk e' → Dx.bk σ' H'
  ct : ∀ (σ' : St) (G' H' : Hp) (e' : List S), Rel K c G' H' σ' e' → Same G G' → De.ct e' → Dx.ct σ' H'
  xx : ∀ (x : XV) (e' : List S) (cl : Value) (dd : Option Addr) (σ' : St) (G' H' : Hp), Rel K c G' H' σ' e' → Same G G' → RepX K G' H' x cl dd → Xd x e' → W cl dd σ' H'
def liftS (K : PySem.W.Frag) (c : C0) (W : WX) (t : TDS) : TS := fun Dx σ H => ∃ (G : Hp) (e : List S) (De : EndsD) (Xd : XD), Rel K c G H σ e ∧ t Xd De e ∧ Fin K c W Dx De Xd G
structure DS (X : Cx) (c : C0) (W : WX) (st : Stmt) (t : TDS) : Prop where
  ps : PS X st (liftS X.K c W t)
structure DSs (X : Cx) (c : C0) (W : WX) (st : List Stmt) (t : TDS) : Prop where
  pss : PSs X st (liftS X.K c W t)
theorem PS.imp {X : Cx} {e : Stmt} {t t' : TS} (h : PS X e t) (i : ∀ D σ H, t' D σ H → t D σ H) : PS X e t' := ⟨fun pins s σ H D I q => h.run pins s σ H D I (i D σ H q)⟩
theorem PSs.imp {X : Cx} {e : List Stmt} {t t' : TS} (h : PSs X e t) (i : ∀ D σ H, t' D σ H → t D σ H) : PSs X e t' := ⟨fun pins s σ H D I q => h.run pins s σ H D I (i D σ H q)⟩
section
variable {K : PySem.W.Frag} {c : C0} {W : WX} {Dx : Ends} {De : EndsD} {Xd : XD} {σ : St} {G H G1 H1 : Hp} {e e1 : List S}
theorem Fin.mono (f : Fin K c W Dx De Xd G) (s : Same G G1) : Fin K c W Dx De Xd G1 :=
  ⟨fun σ' G' H' e' r q h => f.nx σ' G' H' e' r (s.trans q) h, fun d v σ' G' H' e' r q rd h => f.rt d v σ' G' H' e' r (s.trans q) rd h, fun σ' G' H' e' r q h => f.bk σ' G' H' e' r (s.trans q) h,
   fun σ' G' H' e' r q h => f.ct σ' G' H' e' r (s.trans q) h, fun x e' cl dd σ' G' H' r q rx h => f.xx x e' cl dd σ' G' H' r (s.trans q) rx h⟩
theorem Fin.ke (f : Fin K c W Dx De Xd G) (r : Rel K c G H σ e) : KE K c W Xd σ G H e := fun x e' cl dd G' H' st rx h => f.xx x e' cl dd σ G' H' st.rel st.sg rx h
end

/-! ### blocks -/
section
variable {X : Cx} {c : C0} {W : WX} {st : Stmt} {rest : List Stmt} {t u : TDS} {ex : Expr} {te : TDE} {pos : Pos}
def dNext : TDS := fun _ De e => De.nx e
def dSeq (t u : TDS) : TDS := fun Xd De e => t Xd { De with nx := u Xd De } e
theorem dss_nil : DSs X c W [] dNext := ⟨PSs.imp pss_nil fun Dx σ H ⟨G, e, De, Xd, rel, h, f⟩ => f.nx σ G H e rel (Same.refl _) h⟩
theorem dss_one (h : DS X c W st t) : DSs X c W [st] t := ⟨pss_one h.ps⟩
theorem dss_cons (h1 : DS X c W st t) (h2 : DSs X c W rest u) : DSs X c W (st :: rest) (dSeq t u) := by
  refine ⟨PSs.imp (pss_cons h1.ps h2.pss) fun Dx σ H ⟨G, e, De, Xd, rel, h, f⟩ => ?_⟩
  exact ⟨G, e, _, Xd, rel, h, ⟨fun σ' G' H' e' r q h' => ⟨G', e', De, Xd, r, h', f.mono q⟩, f.rt, f.bk, f.ct, f.xx⟩⟩
def dBreak : TDS := fun _ De e => De.bk e
def dCont : TDS := fun _ De e => De.ct e
theorem ds_pass : DS X c W (.Pass pos) dNext := ⟨PS.imp ps_pass fun Dx σ H ⟨G, e, De, Xd, rel, h, f⟩ => f.nx σ G H e rel (Same.refl _) h⟩
theorem ds_break : DS X c W (.Break pos) dBreak := ⟨PS.imp ps_break fun Dx σ H ⟨G, e, De, Xd, rel, h, f⟩ => f.bk σ G H e rel (Same.refl _) h⟩
theorem ds_cont : DS X c W (.Continue pos) dCont := ⟨PS.imp ps_continue fun Dx σ H ⟨G, e, De, Xd, rel, h, f⟩ => f.ct σ G H e rel (Same.refl _) h⟩
/-- an expression whose value is dropped -/
def dDrop (te : TDE) : TDS := fun Xd De e => te Xd e fun _ e1 => De.nx e1
theorem ds_expr (he : DE X c W ex te) (hs : swapsWith ex none pos.line X.env = pure false := by rfl) : DS X c W (.Expr ex pos) (dDrop te) := by
  refine ⟨PS.imp (ps_expr he.pe hs) fun Dx σ H ⟨G, e, De, Xd, rel, h, f⟩ => ?_⟩
  exact ⟨G, e, _, Xd, rel, h, fun ρ e1 v G1 H1 s1 r1 h1 => f.nx σ G1 H1 e1 s1.rel s1.sg h1, f.ke rel⟩
def dRet (te : TDE) : TDS := fun Xd De e => te Xd e fun ρ e1 => ∃ d, see e1 ρ = some d ∧ De.rt d (fz e1 ρ)
theorem ds_ret (he : DE X c W ex te) : DS X c W (.Return (some ex) pos) (dRet te) := by
  refine ⟨PS.imp (ps_ret he.pe) fun Dx σ H ⟨G, e, De, Xd, rel, h, f⟩ => ?_⟩
  refine ⟨G, e, _, Xd, rel, h, fun ρ e1 v G1 H1 s1 r1 h1 => ?_, f.ke rel⟩
  obtain ⟨d, sd, h1⟩ := h1
  obtain ⟨G2, s2, rd, _⟩ := Step.asD rel s1 r1 sd
  exact f.rt d v σ G2 H1 _ s2.rel s2.sg rd h1
def dRetN : TDS := fun _ De e => De.rt .non e
theorem ds_retN : DS X c W (.Return none pos) dRetN := ⟨PS.imp ps_retN fun Dx σ H ⟨G, e, De, Xd, rel, h, f⟩ => f.rt .non .non σ G H e rel (Same.refl _) .non h⟩
def dIfS (tc : TDT) (t u : TDS) : TDS := fun Xd De e => tc Xd e fun b e1 => if b = true then t Xd De e1 else u Xd De e1
theorem ds_if {cx : Expr} {a b : List Stmt} {tc : TDT} (hc : DT X c W cx tc) (ha : DSs X c W a t) (hb : DSs X c W b u) : DS X c W (.If cx a b pos) (dIfS tc t u) := by
  refine ⟨PS.imp (ps_if hc.pt ha.pss hb.pss) fun Dx σ H ⟨G, e, De, Xd, rel, h, f⟩ => ?_⟩
  refine ⟨G, e, _, Xd, rel, h, fun b e1 G1 H1 s1 h1 => ?_, f.ke rel⟩
  cases b with
  | true => exact ⟨G1, e1, De, Xd, s1.rel, h1, f.mono s1.sg⟩
  | false => exact ⟨G1, e1, De, Xd, s1.rel, h1, f.mono s1.sg⟩
def dNever : TDS := fun _ _ _ => False
theorem dss_never {sts : List Stmt} : DSs X c W sts dNever := ⟨PSs.imp pss_never fun Dx σ H ⟨G, e, De, Xd, rel, h, f⟩ => h.elim⟩
theorem ds_never : DS X c W st dNever := ⟨PS.imp ps_never fun Dx σ H ⟨G, e, De, Xd, rel, h, f⟩ => h.elim⟩

/-! ### while -/
def whileN (tc : TDT) (tb : TDS) (Xd : XD) (De : EndsD) : Nat → List S → Prop
  | 0, _ => False
  | n + 1, e => tc Xd e fun b e1 => if b = true then tb Xd { De with nx := whileN tc tb Xd De n, ct := whileN tc tb Xd De n, bk := De.nx } e1 else De.nx e1
def dWhile (tc : TDT) (tb : TDS) : TDS := fun Xd De e => ∃ n, whileN tc tb Xd De n e
theorem ds_while {cx : Expr} {body : List Stmt} {tc : TDT} {tb : TDS} (hp : PassesOwn (model X.prog X.w) X.A X.env X.xe) (hc : DT X c W cx tc) (hb : DSs X c W body tb) : DS X c W (.While cx body [] pos) (dWhile tc tb) := by
  refine ⟨PS.imp (ps_while hp hc.pt hb.pss) fun Dx σ H ⟨G, e, De, Xd, rel, ⟨n, h⟩, f⟩ => ?_⟩
  refine ⟨fun m σ' H' => ∃ G' e', Rel X.K c G' H' σ' e' ∧ Same G G' ∧ whileN tc tb Xd De m e', ⟨n, G, e, rel, Same.refl _, h⟩, ?_⟩
  rintro m σ1 H1 ⟨G1, e1, r1, s1, h1⟩
  cases m with
  | zero => exact h1.elim
  | succ m =>
    refine ⟨G1, e1, _, Xd, r1, h1, fun b e2 G2 H2 s2 h2 => ?_, (f.mono s1).ke r1⟩
    cases b with
    | true =>
      rw [if_pos rfl] at h2 ⊢
      refine ⟨fun σ' H' => ∃ G' e', Rel X.K c G' H' σ' e' ∧ Same G G' ∧ whileN tc tb Xd De m e', fun σ' H' q => ⟨m, Nat.lt_succ_self _, q⟩, G2, e2, _, Xd, s2.rel, h2, ?_⟩
      have sg := s1.trans s2.sg
      exact ⟨fun σ' G' H' e' r q h' => ⟨G', e', r, sg.trans q, h'⟩, (f.mono sg).rt, (f.mono sg).nx, fun σ' G' H' e' r q h' => ⟨G', e', r, sg.trans q, h'⟩, (f.mono sg).xx⟩
    | false =>
      rw [if_neg Bool.false_ne_true] at h2 ⊢
      exact (f.mono s1).nx σ1 G2 H2 e2 s2.rel s2.sg h2
end

/-! ### storing into a slot -/
section
variable {K : PySem.W.Frag} {c : C0} {σ : St} {Hs G H G1 H1 : Hp} {e e1 : List S}
/-- slot i gets s -/
theorem Rel.put {i : Nat} {s : S} {v : V} (r : Rel K c G H σ e) (hi : i < e.length) (hf : ∀ t, e[i]? = some t → t.fixd = false) (hs : SlotR K G H s (some v))
    (ho : s.own = true → ∀ a, v = .ref a → G a = none ∧ c.H0 a = none ∧ ∀ j, j ≠ i → ∀ t, e[j]? = some t → t.own = true → σ[j]? ≠ some (some (.ref a))) : Rel K c G H (σ.set i (some v)) (e.set i s) := by
  have hi' : i < σ.length := by rw [r.len]; exact hi
  have at_ : ∀ (j : Nat) (t : S), (e.set i s)[j]? = some t → (j = i ∧ t = s ∧ (σ.set i (some v))[j]? = some (some v)) ∨ (j ≠ i ∧ e[j]? = some t ∧ (σ.set i (some v))[j]? = σ[j]?) := fun j t h => by
    by_cases z : i = j
    · subst z
      rw [List.getElem?_set_self hi] at h
      cases h
      exact .inl ⟨rfl, rfl, List.getElem?_set_self hi'⟩
    · rw [List.getElem?_set_ne z] at h
      exact .inr ⟨fun q => z q.symm, h, List.getElem?_set_ne z⟩
  refine ⟨by rw [List.length_set, List.length_set]; exact r.len, fun j t h => ?_, r.gh, r.keep, r.gsub, r.gnew, fun a ⟨j, t, h1, h2, h3⟩ => ?_, fun j k t u a h1 h2 h3 h4 h5 h6 => ?_, fun j a h => ?_, by rw [List.length_set]; exact r.ln⟩
  · rcases at_ j t h with ⟨rfl, rfl, q⟩ | ⟨_, h', q⟩
    · rw [q]; exact hs
    · rw [q]; exact r.sl j t h'
  · rcases at_ j t h1 with ⟨rfl, rfl, q⟩ | ⟨_, h', q⟩
    · rw [q] at h3; cases h3
      obtain ⟨z1, z2, _⟩ := ho h2 a rfl
      exact ⟨z1, .inl z2⟩
    · rw [q] at h3; exact r.own a ⟨j, t, h', h2, h3⟩
  · rcases at_ j t h1 with ⟨rfl, rfl, q⟩ | ⟨nj, h', q⟩
    · rcases at_ k u h2 with ⟨rfl, rfl, q2⟩ | ⟨nk, h2', q2⟩
      · rfl
      · rw [q] at h5; cases h5
        rw [q2] at h6
        exact absurd h6 ((ho h3 a rfl).2.2 k nk u h2' h4)
    · rcases at_ k u h2 with ⟨rfl, rfl, q2⟩ | ⟨nk, h2', q2⟩
      · rw [q2] at h6; cases h6
        rw [q] at h5
        exact absurd h5 ((ho h4 a rfl).2.2 j nj t h' h3)
      · rw [q] at h5; rw [q2] at h6
        exact r.inj j k t u a h' h2' h3 h4 h5 h6
  · obtain ⟨h1, t, h2, h3⟩ := r.rfs j a h
    have nj : i ≠ j := fun z => by subst z; rw [hf t h2] at h3; cases h3
    exact ⟨by rw [List.getElem?_set_ne nj]; exact h1, t, by rw [List.getElem?_set_ne nj]; exact h2, h3⟩
/-- what a slot holds behind name = value -/
def asg (e : List S) (i : Nat) : R → Option (List S)
  | .d x => some (e.set i (.d x))
  | .tl xs => some (e.set i (.ol xs))
  | .td ks xs => some (e.set i (.od ks xs))
  | .tw n => some (e.set i (.well n))
  | .sl j => (see e (.sl j)).map fun d => (fz e (.sl j)).set i (.d d)
/-- the slot may be stored into -/
def free (e : List S) (i : Nat) : Prop := ∃ t : S, e[i]? = some t ∧ t.fixd = false
theorem fz_len (e : List S) (ρ : R) : (fz e ρ).length = e.length := by
  cases ρ with
  | sl i => simp only [fz]; split <;> simp
  | _ => rfl
theorem fz_free {e : List S} {i : Nat} {ρ : R} (h : free e i) : free (fz e ρ) i := by
  obtain ⟨t, h1, h2⟩ := h
  cases ρ with
  | sl j =>
    simp only [fz]
    split
    · by_cases z : j = i
      · subst z; exact ⟨_, List.getElem?_set_self (List.getElem?_eq_some_iff.mp h1).1, rfl⟩
      · exact ⟨t, by rw [List.getElem?_set_ne z]; exact h1, h2⟩
    · by_cases z : j = i
      · subst z; exact ⟨_, List.getElem?_set_self (List.getElem?_eq_some_iff.mp h1).1, rfl⟩
      · exact ⟨t, by rw [List.getElem?_set_ne z]; exact h1, h2⟩
    · exact ⟨t, h1, h2⟩
  | _ => exact ⟨t, h1, h2⟩
theorem Rel.assign {i : Nat} {ρ : R} {v : V} {e' : List S} {G0 H0 : Hp} {e0 : List S} (r0 : Rel K c G0 H0 σ e0) (st : Step K c σ G0 H0 e0 G H e) (rr : RepR K H0 G H σ e ρ v) (hf : free e i) (h : asg e i ρ = some e') :
    ∃ G', Same G G' ∧ Rel K c G' H (σ.set i (some v)) e' := by
  have r := st.rel
  obtain ⟨t, h1, h2⟩ := hf
  have hi := (List.getElem?_eq_some_iff.mp h1).1
  have hx : ∀ t', e[i]? = some t' → t'.fixd = false := fun t' q => by rw [h1] at q; cases q; exact h2
  have nown : ∀ {a : Addr}, ¬ OwnAt σ e a → ∀ j, j ≠ i → ∀ t, e[j]? = some t → t.own = true → σ[j]? ≠ some (some (.ref a)) := fun hn j _ t q1 q2 q3 => hn ⟨j, t, q1, q2, q3⟩
  cases ρ with
  | d x =>
    cases h
    exact ⟨G, Same.refl _, r.put hi hx ⟨v, rfl, rr⟩ fun z => by cases z⟩
  | tl xs =>
    cases h
    obtain ⟨a, vs, rfl, k1, k2, k3, k4, k5⟩ := rr
    exact ⟨G, Same.refl _, r.put hi hx ⟨a, vs, rfl, k1, k2⟩ fun _ b hb => by cases hb; exact ⟨k3, r0.fresh0 k4, nown k5⟩⟩
  | td ks xs =>
    cases h
    obtain ⟨a, vs, rfl, k1, kl, k2, k3, k4, k5⟩ := rr
    exact ⟨G, Same.refl _, r.put hi hx ⟨a, vs, rfl, k1, kl, k2⟩ fun _ b hb => by cases hb; exact ⟨k3, r0.fresh0 k4, nown k5⟩⟩
  | tw n =>
    cases h
    obtain ⟨a, rfl, k1, k3, k4, k5⟩ := rr
    exact ⟨G, Same.refl _, r.put hi hx ⟨a, rfl, k1⟩ fun _ b hb => by cases hb; exact ⟨k3, r0.fresh0 k4, nown k5⟩⟩
  | sl j =>
    simp only [asg, Option.map_eq_some_iff] at h
    obtain ⟨d, sd, rfl⟩ := h
    obtain ⟨G', s2, rd, s3⟩ := Step.asD r0 st rr sd
    obtain ⟨t', f1, f2⟩ := fz_free (ρ := .sl j) ⟨t, h1, h2⟩
    exact ⟨G', s3, s2.rel.put (by rw [fz_len]; exact hi) (fun t'' q => by rw [f1] at q; cases q; exact f2) ⟨v, rfl, rd⟩ fun z => by cases z⟩
end
end L3

/-! L3: targets, what is walked, for, comprehensions -/
namespace L3
open PySem PySem.Spec PyProof.Rows L2

/-! ### name = value -/
section
variable {X : Cx} {c : C0} {W : WX} {ex : Expr} {te : TDE} {pos pos' : Pos}
def dSet (i : Nat) (te : TDE) : TDS := fun Xd De e => te Xd e fun ρ e1 => free e1 i ∧ ∃ e2, asg e1 i ρ = some e2 ∧ De.nx e2
theorem lift_set {K : PySem.W.Frag} {i : Nat} {Dx : Ends} {σ : St} {H : Hp} (h : liftS K c W (dSet i te) Dx σ H) : liftE K c W te σ H fun x H1 => gName i x σ H1 Dx.nx := by
  obtain ⟨G, e, De, Xd, rel, h, f⟩ := h
  refine ⟨G, e, _, Xd, rel, h, fun ρ e1 v G1 H1 s1 r1 h1 => ?_, f.ke rel⟩
  obtain ⟨hf, e2, ha, h1⟩ := h1
  obtain ⟨G2, sg, r2⟩ := Rel.assign rel s1 r1 hf ha
  exact f.nx _ G2 H1 e2 r2 (s1.sg.trans sg) h1
theorem ds_set {i : Nat} {x : Str} (hN : X.N.Nodup) (he : DE X c W ex te) (hi : X.N[i]? = some x := by rfl) (hx : Loc X.env.scope x := by first | exact .inl rfl | exact .inr rfl) (hs : swapsWith ex (some (.Name x pos')) pos.line X.env = pure false := by rfl)
    (hf : X.fn x = true ∨ X.env.scope.names.lookup x = some .local := by first | exact .inl rfl | exact .inr rfl) : DS X c W (.Assign [.Name x pos'] ex pos) (dSet i te) :=
  ⟨PS.imp (ps_set hN hi hx he.pe hs hf) fun Dx σ H h => lift_set h⟩
end

/-! ### targets -/
abbrev TGD := D → List S → (List S → Prop) → Prop
abbrev TGDs := List D → List S → (List S → Prop) → Prop
/-- the slots ts alone are stored into -/
def Only {α : Type} (ts : List Nat) (σ σ' : List α) : Prop := σ'.length = σ.length ∧ ∀ j, j ∉ ts → σ'[j]? = σ[j]?
theorem Only.refl {α : Type} {ts : List Nat} {σ : List α} : Only ts σ σ := ⟨rfl, fun _ _ => rfl⟩
theorem Only.trans {α : Type} {ts us : List Nat} {σ σ1 σ2 : List α} (a : Only ts σ σ1) (b : Only us σ1 σ2) : Only (ts ++ us) σ σ2 :=
  ⟨b.1.trans a.1, fun j h => by rw [List.mem_append, not_or] at h; rw [b.2 j h.2, a.2 j h.1]⟩
theorem Only.set {α : Type} {l : List α} {i : Nat} {x : α} : Only [i] l (l.set i x) := ⟨List.length_set .., fun j hj => List.getElem?_set_ne fun z => hj (by simp [z])⟩
/-- nothing of one's own at vs -/
def okV (e : List S) (vs : List Nat) : Prop := ∀ v ∈ vs, ∀ t : S, e[v]? = some t → t.own = false
theorem okV.app {e1 e2 : List S} {ts us : List Nat} (a : okV e1 ts) (o : Only us e1 e2) (b : okV e2 us) : okV e2 (ts ++ us) := fun v hv t h => by
  by_cases z : v ∈ us
  · exact b v z t h
  · rcases List.mem_append.mp hv with q | q
    · exact a v q t (by rw [← o.2 v z]; exact h)
    · exact absurd q z
def liftG (K : PySem.W.Frag) (c : C0) (ts : List Nat) (t : TGD) : TG := fun v σ H Q => ∃ (G : Hp) (e : List S) (d : D) (Qd : List S → Prop), Rel K c G H σ e ∧ RepD K G d v ∧ t d e Qd ∧
  ∀ (σ' : St) (e' : List S), Rel K c G H σ' e' → Only ts σ σ' → Only ts e e' → okV e' ts → Qd e' → Q σ' H
def liftGs (K : PySem.W.Frag) (c : C0) (ts : List Nat) (t : TGDs) : TGs := fun vs σ H Q => ∃ (G : Hp) (e : List S) (ds : List D) (Qd : List S → Prop), Rel K c G H σ e ∧ RepDs K G ds vs ∧ t ds e Qd ∧
  ∀ (σ' : St) (e' : List S), Rel K c G H σ' e' → Only ts σ σ' → Only ts e e' → okV e' ts → Qd e' → Q σ' H
structure DG (X : Cx) (c : C0) (tg : Expr) (ts : List Nat) (t : TGD) : Prop where
  pg : PG X tg (liftG X.K c ts t)
structure DGs (X : Cx) (c : C0) (tg : List Expr) (ts : List Nat) (t : TGDs) : Prop where
  pgs : PGs X tg (liftGs X.K c ts t)
theorem PG.imp {X : Cx} {e : Expr} {t t' : TG} (h : PG X e t) (i : ∀ v σ H Q, t' v σ H Q → t v σ H Q) : PG X e t' := ⟨fun pins s σ H v u Q I r q => h.run pins s σ H v u Q I r (i v σ H Q q)⟩
theorem PGs.imp {X : Cx} {e : List Expr} {t t' : TGs} (h : PGs X e t) (i : ∀ v σ H Q, t' v σ H Q → t v σ H Q) : PGs X e t' := ⟨fun pins s σ H v u Q I r q => h.run pins s σ H v u Q I r (i v σ H Q q)⟩
section
variable {X : Cx} {c : C0} {pos : Pos} {tg : Expr} {tgs : List Expr} {ts us : List Nat} {t : TGD} {u : TGDs}
def dgName (i : Nat) : TGD := fun d e Q => free e i ∧ Q (e.set i (.d d))
theorem dg_name {i : Nat} {x : Str} (hN : X.N.Nodup) (hi : X.N[i]? = some x := by rfl) (hx : Loc X.env.scope x := by first | exact .inl rfl | exact .inr rfl) (hf : X.fn x = true ∨ X.env.scope.names.lookup x = some .local := by first | exact .inl rfl | exact .inr rfl) :
    DG X c (.Name x pos) [i] (dgName i) := by
  refine ⟨PG.imp (pg_name hN hi hx hf) fun v σ H Q ⟨G, e, d, Qd, rel, rd, ⟨⟨s, h1, h2⟩, h⟩, hQ⟩ => ?_⟩
  have hl := (List.getElem?_eq_some_iff.mp h1).1
  refine hQ _ _ (rel.put (s := .d d) hl (fun s' q => by rw [h1] at q; cases q; exact h2) ⟨v, rfl, rd⟩ fun z => by cases z) Only.set Only.set (fun v hv s q => ?_) h
  rw [List.mem_singleton] at hv
  subst hv
  rw [List.getElem?_set_self hl] at q
  cases q
  rfl
def dgNil : TGDs := fun ds e Q => ds = [] ∧ Q e
def dgCons (t : TGD) (u : TGDs) : TGDs := fun ds e Q => ∃ d r, ds = d :: r ∧ t d e fun e1 => u r e1 Q
theorem dgs_nil : DGs X c [] [] dgNil := by
  refine ⟨PGs.imp pgs_nil fun vs σ H Q ⟨G, e, ds, Qd, rel, rd, ⟨z, h⟩, hQ⟩ => ?_⟩
  subst z; cases rd
  exact ⟨rfl, hQ σ e rel Only.refl Only.refl (fun _ z => by cases z) h⟩
theorem dgs_cons (h1 : DG X c tg ts t) (h2 : DGs X c tgs us u) (hs : (assignEach (tg :: tgs) X.env).map (·.2) = assign tg X.env :: (assignEach tgs X.env).map (·.2) := by rfl) : DGs X c (tg :: tgs) (ts ++ us) (dgCons t u) := by
  refine ⟨PGs.imp (pgs_cons h1.pg h2.pgs hs) fun vs σ H Q ⟨G, e, ds, Qd, rel, rd, ⟨d, r, z, h⟩, hQ⟩ => ?_⟩
  subst z
  cases rd with
  | @cons _ v _ vr k1 k2 =>
    exact ⟨v, vr, rfl, G, e, d, _, rel, k1, h, fun σ1 e1 r1 o1 p1 b1 q1 => ⟨G, e1, r, Qd, r1, k2, q1, fun σ2 e2 r2 o2 p2 b2 q2 => hQ σ2 e2 r2 (o1.trans o2) (p1.trans p2) (b1.app p2 b2) q2⟩⟩
def dgTup (n : Nat) (u : TGDs) : TGD := fun d e Q => ∃ xs, d = .tup xs ∧ xs.length = n ∧ u xs e Q
theorem dg_tup {k : Nat} {n : Nat} (hc : X.calm = true) (h : DGs X c tgs us u) (hn : (assignEach tgs X.env).length = n := by rfl) (hst : (assignEach tgs X.env).findIdx? (·.1) = none := by rfl) : DG X c (.Tuple tgs k pos) us (dgTup n u) := by
  refine ⟨PG.imp (pg_tup hc h.pgs hn hst) fun v σ H Q ⟨G, e, d, Qd, rel, rd, ⟨xs, z, hl, h⟩, hQ⟩ => ?_⟩
  subst z
  cases rd with
  | @tup a vs _ k1 k2 => exact ⟨a, vs, rfl, Same.seqT rel.gh k1, by rw [← k2.length]; exact hl, G, e, xs, Qd, rel, k2, h, hQ⟩
end
/-! target = value -/
section
variable {X : Cx} {c : C0} {W : WX} {ex tg : Expr} {te : TDE} {pos : Pos} {ts : List Nat} {t : TGD}
def dAsg (te : TDE) (t : TGD) : TDS := fun Xd De e => te Xd e fun ρ e1 => ∃ d, see e1 ρ = some d ∧ t d (fz e1 ρ) De.nx
theorem ds_asg (he : DE X c W ex te) (hg : DG X c tg ts t) (hs : swapsWithSole [tg] ex pos.line X.env = pure false := by rfl) (hw : swappedStores [tg] ex X.env = pure none := by rfl)
    (h1 : (assignEach [tg] X.env).map (·.2) = [assign tg X.env] := by rfl) : DS X c W (.Assign [tg] ex pos) (dAsg te t) := by
  refine ⟨PS.imp (ps_asg he.pe hg.pg hs hw h1) fun Dx σ H ⟨G, e, De, Xd, rel, h, f⟩ => ?_⟩
  refine ⟨G, e, _, Xd, rel, h, fun ρ e1 v G1 H1 s1 r1 h1 => ?_, f.ke rel⟩
  obtain ⟨d, sd, h1⟩ := h1
  obtain ⟨G2, s2, rd, _⟩ := Step.asD rel s1 r1 sd
  exact ⟨G2, _, d, _, s2.rel, rd, h1, fun σ' e' r' _ _ _ q => f.nx σ' G2 H1 e' r' s2.sg q⟩
/-- a, b = x, y -/
def dPar (i j : Nat) (ta tb : TDE) : TDS := fun Xd De e => ta Xd e fun ρ1 e1 => tb Xd e1 fun ρ2 e2 => (∀ k, ρ1 ≠ .sl k) ∧ (∀ k, ρ2 ≠ .sl k) ∧ free e2 i ∧ free e2 j ∧ ∃ e3 e4, asg e2 i ρ1 = some e3 ∧ asg e3 j ρ2 = some e4 ∧ De.nx e4
end
section
variable {K : PySem.W.Frag} {c : C0} {σ : St} {Hs G H G1 H1 : Hp} {e e1 : List S} {ρ ρ' : R} {v v' : V} {i : Nat}
/-- a result that is no slot is kept where another one is stored -/
theorem RepR.stored {e' : List S} (r : RepR K Hs G H σ e ρ v) (hn : ∀ k, ρ ≠ .sl k) (hn' : ∀ k, ρ' ≠ .sl k) (ha : asg e i ρ' = some e')
    (ne : ∀ a, v = .ref a → v' = .ref a → (∀ x, ρ' ≠ .d x) → (∀ x, ρ ≠ .d x) → False) : RepR K Hs G H (σ.set i (some v')) e' ρ v := by
  have own : ∀ a, v = .ref a → (∀ x, ρ ≠ .d x) → ¬ OwnAt σ e a → ¬ OwnAt (σ.set i (some v')) e' a := fun a hv hd hn ⟨j, t, h1, h2, h3⟩ => by
    have he : ∃ t', e' = e.set i t' ∧ (t'.own = true → ∀ x, ρ' ≠ .d x) := by
      cases ρ' with
      | sl k => exact absurd rfl (hn' k)
      | d x => simp only [asg, Option.some.injEq] at ha; exact ⟨_, ha.symm, fun z => by cases z⟩
      | tl xs => simp only [asg, Option.some.injEq] at ha; exact ⟨_, ha.symm, fun _ _ z => by cases z⟩
      | td ks xs => simp only [asg, Option.some.injEq] at ha; exact ⟨_, ha.symm, fun _ _ z => by cases z⟩
      | tw n => simp only [asg, Option.some.injEq] at ha; exact ⟨_, ha.symm, fun _ _ z => by cases z⟩
    obtain ⟨t', rfl, ht'⟩ := he
    by_cases z : i = j
    · subst z
      have hi : i < σ.length := by
        have := (List.getElem?_eq_some_iff.mp h3).1
        rw [List.length_set] at this
        exact this
      have hi2 : i < e.length := by
        have := (List.getElem?_eq_some_iff.mp h1).1
        rw [List.length_set] at this
        exact this
      rw [List.getElem?_set_self hi] at h3
      rw [List.getElem?_set_self hi2] at h1
      cases h3
      cases h1
      exact ne a hv rfl (ht' h2) hd
    · rw [List.getElem?_set_ne z] at h1 h3
      exact hn ⟨j, t, h1, h2, h3⟩
  cases ρ with
  | d x => exact r
  | sl k => exact absurd rfl (hn k)
  | tl xs => obtain ⟨a, vs, rfl, q2, q3, q4, q5, q6⟩ := r; exact ⟨a, vs, rfl, q2, q3, q4, q5, own a rfl (fun _ z => by cases z) q6⟩
  | td ks xs => obtain ⟨a, vs, rfl, q2, ql, q3, q4, q5, q6⟩ := r; exact ⟨a, vs, rfl, q2, ql, q3, q4, q5, own a rfl (fun _ z => by cases z) q6⟩
  | tw n => obtain ⟨a, rfl, q2, q4, q5, q6⟩ := r; exact ⟨a, rfl, q2, q4, q5, own a rfl (fun _ z => by cases z) q6⟩
/-- as Rel.assign, for what is no slot: the frozen part stays -/
theorem Rel.assign' {e' : List S} {H0 : Hp} (r0 : ∀ a, H0 a = none → c.H0 a = none) (r : Rel K c G H σ e) (rr : RepR K H0 G H σ e ρ v) (hn : ∀ k, ρ ≠ .sl k) (hf : free e i) (h : asg e i ρ = some e') : Rel K c G H (σ.set i (some v)) e' := by
  obtain ⟨t, h1, h2⟩ := hf
  have hi := (List.getElem?_eq_some_iff.mp h1).1
  have hx : ∀ t', e[i]? = some t' → t'.fixd = false := fun t' q => by rw [h1] at q; cases q; exact h2
  have nown : ∀ {a : Addr}, ¬ OwnAt σ e a → ∀ j, j ≠ i → ∀ t, e[j]? = some t → t.own = true → σ[j]? ≠ some (some (.ref a)) := fun hn j _ t q1 q2 q3 => hn ⟨j, t, q1, q2, q3⟩
  cases ρ with
  | d x => cases h; exact r.put hi hx ⟨v, rfl, rr⟩ fun z => by cases z
  | sl k => exact absurd rfl (hn k)
  | tl xs => cases h; obtain ⟨a, vs, rfl, k1, k2, k3, k4, k5⟩ := rr; exact r.put hi hx ⟨a, vs, rfl, k1, k2⟩ fun _ b hb => by cases hb; exact ⟨k3, r0 _ k4, nown k5⟩
  | td ks xs => cases h; obtain ⟨a, vs, rfl, k1, kl, k2, k3, k4, k5⟩ := rr; exact r.put hi hx ⟨a, vs, rfl, k1, kl, k2⟩ fun _ b hb => by cases hb; exact ⟨k3, r0 _ k4, nown k5⟩
  | tw n => cases h; obtain ⟨a, rfl, k1, k3, k4, k5⟩ := rr; exact r.put hi hx ⟨a, rfl, k1⟩ fun _ b hb => by cases hb; exact ⟨k3, r0 _ k4, nown k5⟩
end

/-! ### what is walked -/
def ItOk (K : PySem.W.Frag) (G : Hp) (J : It) (xs : List D) : Prop := ∀ (G' H' : Hp), Same G G' → Same G' H' → (∀ i, i < xs.length → J.go i H') ∧ (∀ i, xs.length ≤ i → J.stop i H') ∧
  ∀ (i : Nat) (v : V) (H'' : Hp), J.yld i H' v H'' → ∃ d G'', (i < xs.length → xs[i]? = some d) ∧ (i < xs.length → RepD K G'' d v) ∧ Same G' G'' ∧ Same H' H'' ∧ Same G'' H'' ∧ ∀ a, G'' a ≠ none → G' a ≠ none ∨ H' a = none
def liftI (K : PySem.W.Frag) (c : C0) (W : WX) (t : TDI) : TI := fun σ H Rk => ∃ (G : Hp) (e : List S) (Qd : List D → List S → Prop) (Xd : XD), Rel K c G H σ e ∧ t Xd e Qd ∧
  (∀ (xs : List D) (e' : List S) (J : It) (G' H' : Hp), Step K c σ G H e G' H' e' → ItOk K G' J xs → Qd xs e' → Rk J H') ∧ KE K c W Xd σ G H e
structure DI (X : Cx) (c : C0) (W : WX) (tg it : Expr) (t : TDI) : Prop where
  pi : PI X tg it (liftI X.K c W t)
theorem PI.imp {X : Cx} {tg it : Expr} {t t' : TI} (h : PI X tg it t) (i : ∀ σ H Q, t' σ H Q → t σ H Q) : PI X tg it t' := ⟨fun pins s σ H Q I q => h.run pins s σ H Q I (i σ H Q q)⟩
/-- any list, tuple, text -/
def iSeq (K : PySem.W.Frag) (tl : TE) : TI := fun σ H Rk => tl σ H fun x H1 => (∃ a, x = .ref a ∧ (∃ xs, SqL K H1 a xs) ∧ Rk (Itl K a) H1) ∨ (∃ a, x = .ref a ∧ (∃ xs, SqT K H1 a xs) ∧ Rk (Itt K a) H1) ∨ ∃ z, x = .str z ∧ Rk (Its z) H1
theorem pi_seq {X : Cx} {tg l : Expr} {tl : TE} (hl : PE X l tl) : PI X tg l (iSeq X.K tl) := by
  refine ⟨fun pins s σ H Rk I h => ?_⟩
  refine thn (hl.run pins s σ H _ I h) fun v s1 ⟨x, H1, I1, r1, q1⟩ => ?_
  rcases q1 with ⟨a, e, ⟨xs, hq⟩, q⟩ | ⟨a, e, ⟨xs, hq⟩, q⟩ | ⟨z, e, q⟩
  · subst e
    cases r1
    obtain ⟨its, rv, p, hz⟩ := I1.list hq
    exact wpAny_pyIter_list p.isList (pi_one (tk := s1.toks) I1 _ (turn_list a _) ⟨_, Heap.get?_push_size _ rfl, rfl, rfl⟩ q)
  · subst e
    cases r1
    obtain ⟨its, rv, p, hz⟩ := I1.tuple hq
    exact wpAny_pyIter_tuple (show s1.heap.IsTuple a its.toArray from p) (pi_one (tk := s1.toks) I1 _ (turn_tuple a _) ⟨_, Heap.get?_push_size _ rfl, rfl, rfl⟩ q)
  · subst e
    obtain ⟨t, rfl⟩ := r1
    cases ha : z.cps.all (· < 128)
    · exact wpAny_pyIter_wide ha (pi_one (tk := s1.toks) I1 _ (turn_str _ z t "str_iterator" (.inr rfl)) ⟨_, Heap.get?_push_size _ rfl, rfl, rfl⟩ q)
    · exact wpAny_pyIter_ascii ha (pi_one (tk := s1.toks) I1 _ (turn_str _ z t "str_ascii_iterator" (.inl rfl)) ⟨_, Heap.get?_push_size _ rfl, rfl, rfl⟩ q)
def chars (z : Str) : List D := z.cps.toList.map fun c => .str ⟨#[c]⟩
def D.items : D → Option (List D)
  | .lst xs => some xs
  | .tup xs => some xs
  | .str z => some (chars z)
  | _ => none
def diSeq (te : TDE) : TDI := fun Xd e Q => te Xd e fun ρ e1 => ∃ d xs, see e1 ρ = some d ∧ d.items = some xs ∧ Q xs (fz e1 ρ)
section
variable {K : PySem.W.Frag}
theorem ext_refl {G H : Hp} (s : Same G H) : Same G G ∧ Same H H ∧ Same G H ∧ ∀ a, G a ≠ none → G a ≠ none ∨ H a = none := ⟨Same.refl _, Same.refl _, s, fun _ h => .inl h⟩
theorem ItOk.lst {G : Hp} {a : Addr} {vs : List V} {xs : List D} (h : G a = some (.lst vs)) (r : RepDs K G xs vs) : ItOk K G (Itl K a) xs := fun G' H' s1 s2 => by
  have hq : SqL K H' a vs := .inl (.inl (s2 _ _ (s1 _ _ h)))
  have hl := r.length
  refine ⟨fun i hi => ⟨vs, vs[i]'(by omega), hq, by simp⟩, fun i hi => ⟨vs, hq, by omega⟩, fun i v H'' y => ?_⟩
  obtain ⟨rfl, y⟩ := y
  have q := y vs hq
  obtain ⟨d, hd, rd⟩ := r.get q
  exact ⟨d, G', fun _ => hd, fun _ => RepD.mono s1 rd, ext_refl s2⟩
theorem ItOk.tup {G : Hp} {a : Addr} {vs : List V} {xs : List D} (h : SqT K G a vs) (r : RepDs K G xs vs) : ItOk K G (Itt K a) xs := fun G' H' s1 s2 => by
  have hq : SqT K H' a vs := Same.seqT s2 (Same.seqT s1 h)
  have hl := r.length
  refine ⟨fun i hi => ⟨vs, vs[i]'(by omega), hq, by simp⟩, fun i hi => ⟨vs, hq, by omega⟩, fun i v H'' y => ?_⟩
  obtain ⟨rfl, y⟩ := y
  have q := y vs hq
  obtain ⟨d, hd, rd⟩ := r.get q
  exact ⟨d, G', fun _ => hd, fun _ => RepD.mono s1 rd, ext_refl s2⟩
theorem ItOk.str {G : Hp} {z : Str} : ItOk K G (Its z) (chars z) := fun G' H' s1 s2 => by
  have hl : (chars z).length = z.cps.size := by simp [chars]
  refine ⟨fun i hi => by rw [hl] at hi; exact hi, fun i hi => by rw [hl] at hi; exact hi, fun i v H'' y => ?_⟩
  obtain ⟨rfl, cc, hc, rfl⟩ := y
  refine ⟨.str ⟨#[cc]⟩, G', fun _ => ?_, fun _ => .str _, ext_refl s2⟩
  simp only [chars, List.getElem?_map, Array.getElem?_toList, hc, Option.map_some]
end
section
variable {X : Cx} {c : C0} {W : WX} {tg l : Expr} {te : TDE}
theorem di_seq (hl : DE X c W l te) : DI X c W tg l (diSeq te) := by
  refine ⟨PI.imp (pi_seq hl.pe) fun σ H Rk ⟨G, e, Qd, Xd, rel, h, hQ, hX⟩ => ?_⟩
  refine ⟨G, e, _, Xd, rel, h, fun ρ e1 v G1 H1 s1 r1 h1 => ?_, hX⟩
  obtain ⟨d, xs, sd, di, h1⟩ := h1
  obtain ⟨G2, s2, rd, _⟩ := Step.asD rel s1 r1 sd
  cases d with
  | lst ys =>
    cases di
    cases rd with
    | @lst a vs _ k1 k2 => exact .inl ⟨a, rfl, ⟨vs, .inl (.inl (s2.rel.gh _ _ k1))⟩, hQ _ _ _ G2 H1 s2 (ItOk.lst k1 k2) h1⟩
  | tup ys =>
    cases di
    cases rd with
    | @tup a vs _ k1 k2 => exact .inr (.inl ⟨a, rfl, ⟨vs, Same.seqT s2.rel.gh k1⟩, hQ _ _ _ G2 H1 s2 (ItOk.tup k1 k2) h1⟩)
  | str z =>
    cases di
    cases rd
    exact .inr (.inr ⟨z, rfl, hQ _ _ _ G2 H1 s2 ItOk.str h1⟩)
  | _ => cases di
/-- range(n) -/
def rangeD (lo : Int) (n : Nat) : List D := (List.range n).map fun i => .int (lo + (i : Nat))
theorem ItOk.rng {K : PySem.W.Frag} {G : Hp} {lo : Int} {n : Nat} : ItOk K G (Itr lo n) (rangeD lo n) := fun G' H' s1 s2 => by
  have hl : (rangeD lo n).length = n := by simp [rangeD]
  refine ⟨fun i hi => by rw [hl] at hi; exact hi, fun i hi => by rw [hl] at hi; exact hi, fun i v H'' y => ?_⟩
  obtain ⟨rfl, rfl⟩ := y
  refine ⟨.int (lo + i), G', fun hi => ?_, fun _ => .int _, ext_refl s2⟩
  rw [hl] at hi
  simp [rangeD, hi]
def diRng1 (te : TDE) : TDI := fun Xd e Q => te Xd e fun ρ e1 => ∃ j, see e1 ρ = some (.int j) ∧ -(2 ^ 62) ≤ j ∧ j < 2 ^ 62 ∧ Q (rangeD 0 j.toNat) e1
theorem di_rng1 {p pos : Pos} (hg : Gl X "range") (hm : X.mg "range" = none) (ha : DE X c W l te) (hs : starEach [l] X.env = [(false, eval l X.env)] := by rfl) (hs2 : starEach (l :: []) X.env = (false, eval l X.env) :: starEach [] X.env := by rfl) :
    DI X c W tg (.Call (.Name "range" p) [l] [] pos) (diRng1 te) := by
  refine ⟨PI.imp (pi_range1 hg hm (pa_cons ha.pe pa_nil hs2) hs) fun σ H Rk ⟨G, e, Qd, Xd, rel, h, hQ, hX⟩ => ?_⟩
  refine ⟨G, e, _, Xd, rel, h, fun ρ e1 v G1 H1 s1 r1 h1 => ?_, hX⟩
  obtain ⟨j, sd, b1, b2, h1⟩ := h1
  have ev := (r1.see s1.rel sd).int
  subst ev
  exact ⟨j, rfl, b1, b2, hQ _ _ _ G1 H1 s1 ItOk.rng h1⟩
end

/-! ### for -/
def forN (t : TGD) (tb : TDS) (Xd : XD) (De : EndsD) : List D → List S → Prop
  | [], e => De.nx e
  | x :: r, e => t x e fun e2 => tb Xd { De with nx := forN t tb Xd De r, ct := forN t tb Xd De r, bk := De.nx } e2
def dFor (ti : TDI) (t : TGD) (tb : TDS) : TDS := fun Xd De e => ti Xd e fun xs e1 => forN t tb Xd De xs e1
section
variable {X : Cx} {c : C0} {W : WX} {tg it : Expr} {ti : TDI} {t : TGD} {tb : TDS} {ts : List Nat} {body : List Stmt} {pos : Pos}
theorem ds_for (hp : PassesOwn (model X.prog X.w) X.A X.env X.xe) (hc : X.calm = true) (hi : DI X c W tg it ti) (hg : DG X c tg ts t) (hb : DSs X c W body tb) (hs : ∀ x, foldedSetIterable it X.env x = pure x := by intro _; rfl) :
    DS X c W (.For tg it body [] pos) (dFor ti t tb) := by
  refine ⟨PS.imp (ps_for hp hc hi.pi hg.pg hb.pss hs) fun Dx σ H ⟨G, e, De, Xd, rel, h, f⟩ => ?_⟩
  refine ⟨G, e, _, Xd, rel, h, fun xs e1 J G1 H1 s1 ok h1 => ?_, f.ke rel⟩
  refine ⟨fun i m σ' H' => ∃ G' e', Rel X.K c G' H' σ' e' ∧ Same G1 G' ∧ m = xs.length - i ∧ i ≤ xs.length ∧ forN t tb Xd De (xs.drop i) e', ⟨_, G1, e1, s1.rel, Same.refl _, rfl, Nat.zero_le _, h1⟩, ?_⟩
  rintro i m σ2 H2 ⟨G2, e2, r2, sg, rfl, hi, h2⟩
  obtain ⟨ok1, ok2, ok3⟩ := ok G2 H2 sg r2.gh
  by_cases hlt : i < xs.length
  · refine .inr ⟨ok1 i hlt, fun σ' H' => ∃ G' e', Rel X.K c G' H' σ' e' ∧ Same G1 G' ∧ forN t tb Xd De (xs.drop (i + 1)) e', fun σ' H' ⟨G', e', q1, q2, q3⟩ => ⟨xs.length - (i + 1), by omega, G', e', q1, q2, rfl, hlt, q3⟩, fun v H3 y => ?_⟩
    obtain ⟨d, G3, hd, rd, k1, k2, k3, k4⟩ := ok3 i v H3 y
    have hd := hd hlt
    have rd := rd hlt
    have st := Step.ext r2 k2 k1 k3 k4
    have hx : xs.drop i = d :: xs.drop (i + 1) := by
      rw [List.drop_eq_getElem_cons hlt]
      congr 1
      rw [List.getElem?_eq_getElem hlt] at hd
      exact Option.some.inj hd
    rw [hx] at h2
    refine ⟨G3, e2, d, _, st.rel, rd, h2, fun σ4 e4 r4 _ _ _ q4 => ?_⟩
    have sg4 : Same G G3 := s1.sg.trans (sg.trans k1)
    refine ⟨G3, e4, _, Xd, r4, q4, ⟨fun σ' G' H' e' r q h' => ⟨G', e', r, (sg.trans k1).trans q, h'⟩, (f.mono sg4).rt, (f.mono sg4).nx, fun σ' G' H' e' r q h' => ⟨G', e', r, (sg.trans k1).trans q, h'⟩, (f.mono sg4).xx⟩⟩
  · have e : i = xs.length := by omega
    subst e
    refine .inl ⟨ok2 _ (Nat.le_refl _), ?_⟩
    rw [List.drop_length] at h2
    exact f.nx σ2 G2 H2 e2 r2 (s1.sg.trans sg) h2
end
end L3

/-! L3: two names at once, comprehensions -/
namespace L3
open PySem PySem.Spec PyProof.Rows L2

theorem asg_free {e e' : List S} {i j : Nat} {ρ : R} (hn : ∀ k, ρ ≠ .sl k) (hij : i ≠ j) (h : asg e i ρ = some e') (f : free e j) : free e' j := by
  obtain ⟨t, h1, h2⟩ := f
  have he : ∃ t', e' = e.set i t' := by
    cases ρ <;> first | (exact absurd rfl (hn _)) | (simp only [asg, Option.some.injEq] at h; exact ⟨_, h.symm⟩)
  obtain ⟨t', rfl⟩ := he
  exact ⟨t, by rw [List.getElem?_set_ne hij]; exact h1, h2⟩
section
variable {X : Cx} {c : C0} {W : WX} {a b : Expr} {ta tb : TDE} {pos : Pos}
theorem ds_par {i j : Nat} {x y : Str} {px py pt : Pos} {kt k2 pt2} (hc : X.calm = true) (hN : X.N.Nodup) (ha : DE X c W a ta) (hb : DE X c W b tb) (hi : X.N[i]? = some x := by rfl) (hj : X.N[j]? = some y := by rfl) (hij : i ≠ j := by decide)
    (hx : X.env.scope.names.lookup x = some .local := by rfl) (hy : X.env.scope.names.lookup y = some .local := by rfl)
    (hw : swappedStores [.Tuple [.Name x px, .Name y py] kt pt] (.Tuple [a, b] k2 pt2) X.env = pure (some [x, y]) := by rfl)
    (hs : swapsWithSole [.Tuple [.Name x px, .Name y py] kt pt] (.Tuple [a, b] k2 pt2) pos.line X.env = pure false := by rfl) (h1 : starEach (a :: [b]) X.env = (false, eval a X.env) :: starEach [b] X.env := by rfl) (h2 : starEach (b :: []) X.env = (false, eval b X.env) :: starEach [] X.env := by rfl) :
    DS X c W (.Assign [.Tuple [.Name x px, .Name y py] kt pt] (.Tuple [a, b] k2 pt2) pos) (dPar i j ta tb) := by
  refine ⟨PS.imp (ps_par hc hN hi hj hij hx hy (pa_cons ha.pe (pa_cons hb.pe pa_nil h2) h1) hw hs) fun Dx σ H ⟨G, e, De, Xd, rel, h, f⟩ => ?_⟩
  refine ⟨G, e, _, Xd, rel, h, fun ρ1 e1 v1 G1 H1 s1 r1 h1 => ?_, f.ke rel⟩
  refine ⟨G1, e1, _, Xd, s1.rel, h1, fun ρ2 e2 v2 G2 H2 s2 r2 h2 => ?_, (f.mono s1.sg).ke s1.rel⟩
  obtain ⟨n1, n2, f1, f2, e3, e4, a1, a2, h2⟩ := h2
  refine ⟨v1, v2, rfl, ?_⟩
  have r1' := r1.step s2
  have r3 := Rel.assign' (fun _ z => rel.fresh0 z) s2.rel r1' n1 f1 a1
  have r2s : RepR X.K H G2 H2 (σ.set i (some v1)) e3 ρ2 v2 := by
    refine (r2.back s1).stored n2 n1 a1 fun a hv2 hv1 m1 m2 => ?_
    subst hv1 hv2
    have st1 : ∃ o, H1 a = some o := by
      cases ρ1 with
      | d z => exact absurd rfl (m1 z)
      | sl k => exact absurd rfl (n1 k)
      | tl xs => obtain ⟨b, vs, hb, k1, _⟩ := r1; cases hb; exact ⟨_, k1⟩
      | td ks xs => obtain ⟨b, vs, hb, k1, _⟩ := r1; cases hb; exact ⟨_, k1⟩
      | tw n => obtain ⟨b, hb, k1, _⟩ := r1; cases hb; obtain ⟨_, _, _, _, k1, _⟩ := k1; exact ⟨_, k1⟩
    obtain ⟨o, ho⟩ := st1
    cases ρ2 with
    | d z => exact m2 z rfl
    | sl k => exact n2 k rfl
    | tl xs => obtain ⟨b, vs, hb, _, _, _, k1, _⟩ := r2; cases hb; rw [ho] at k1; cases k1
    | td ks xs => obtain ⟨b, vs, hb, _, _, _, _, k1, _⟩ := r2; cases hb; rw [ho] at k1; cases k1
    | tw n => obtain ⟨b, hb, _, _, k1, _⟩ := r2; cases hb; rw [ho] at k1; cases k1
  have r4 := Rel.assign' (fun _ z => rel.fresh0 z) r3 r2s n2 (asg_free n1 hij a1 f2) a2
  exact f.nx _ G2 H2 e4 r4 (s1.sg.trans s2.sg) h2
end

/-! ### comprehensions -/
def wipeE (e : List S) : List Nat → List S
  | [] => e
  | v :: vs => (wipeE e vs).set v .no
def backE (e e0 : List S) : List Nat → List S
  | [] => e
  | v :: vs => (backE e e0 vs).set v ((e0[v]?).getD .no)
theorem wipeE_len (e : List S) : ∀ vs : List Nat, (wipeE e vs).length = e.length
  | [] => rfl
  | v :: vs => by unfold wipeE; rw [List.length_set, wipeE_len e vs]
theorem backE_len (e e0 : List S) : ∀ vs : List Nat, (backE e e0 vs).length = e.length
  | [] => rfl
  | v :: vs => by unfold backE; rw [List.length_set, backE_len e e0 vs]
theorem wipeE_at {e : List S} {j : Nat} {t : S} : ∀ {vs : List Nat}, (wipeE e vs)[j]? = some t → (j ∈ vs ∧ t = .no) ∨ (j ∉ vs ∧ e[j]? = some t)
  | [], h => .inr ⟨by simp, h⟩
  | v :: vs, h => by
    unfold wipeE at h
    by_cases z : v = j
    · subst z
      have hl := (List.getElem?_eq_some_iff.mp h).1
      rw [List.length_set] at hl
      rw [List.getElem?_set_self hl] at h
      cases h
      exact .inl ⟨by simp, rfl⟩
    · rw [List.getElem?_set_ne z] at h
      rcases wipeE_at h with ⟨a, b⟩ | ⟨a, b⟩
      · exact .inl ⟨by simp [a], b⟩
      · exact .inr ⟨by simp only [List.mem_cons, not_or]; exact ⟨fun q => z q.symm, a⟩, b⟩
theorem wipeE_out {e : List S} {j : Nat} : ∀ {vs : List Nat}, j ∉ vs → (wipeE e vs)[j]? = e[j]?
  | [], _ => rfl
  | v :: vs, h => by
    unfold wipeE
    rw [List.mem_cons, not_or] at h
    rw [List.getElem?_set_ne fun z => h.1 z.symm]
    exact wipeE_out h.2
theorem wipe_at {σ : St} {j : Nat} : ∀ {vs : List Nat}, j ∉ vs → (wipe σ vs)[j]? = σ[j]?
  | [], _ => rfl
  | v :: vs, h => by
    unfold wipe
    rw [List.mem_cons, not_or] at h
    rw [List.getElem?_set_ne fun z => h.1 z.symm]
    exact wipe_at h.2
theorem backE_at {e e0 : List S} {j : Nat} {t : S} : ∀ {vs : List Nat}, (backE e e0 vs)[j]? = some t → (j ∈ vs ∧ t = (e0[j]?).getD .no) ∨ (j ∉ vs ∧ e[j]? = some t)
  | [], h => .inr ⟨by simp, h⟩
  | v :: vs, h => by
    unfold backE at h
    by_cases z : v = j
    · subst z
      have hl := (List.getElem?_eq_some_iff.mp h).1
      rw [List.length_set] at hl
      rw [List.getElem?_set_self hl] at h
      cases h
      exact .inl ⟨by simp, rfl⟩
    · rw [List.getElem?_set_ne z] at h
      rcases backE_at h with ⟨a, b⟩ | ⟨a, b⟩
      · exact .inl ⟨by simp [a], b⟩
      · exact .inr ⟨by simp only [List.mem_cons, not_or]; exact ⟨fun q => z q.symm, a⟩, b⟩
theorem backE_out {e e0 : List S} {j : Nat} : ∀ {vs : List Nat}, j ∉ vs → (backE e e0 vs)[j]? = e[j]?
  | [], _ => rfl
  | v :: vs, h => by
    unfold backE
    rw [List.mem_cons, not_or] at h
    rw [List.getElem?_set_ne fun z => h.1 z.symm]
    exact backE_out h.2
section
variable {K : PySem.W.Frag} {c : C0} {σ σ' : St} {G H G1 H1 G2 H2 : Hp} {e e1 e2 : List S} {vs : List Nat}
theorem own_of {s : S} (h : s.fixd = true) : s.own = true := S.own_of_fixd h
/-- the slots vs change, none of one's own there, before or behind -/
theorem Rel.swap (r : Rel K c G H σ e) (hl : σ'.length = σ.length) (hle : e1.length = e.length) (ho : okV e vs) (ho1 : okV e1 vs) (hs : ∀ j, j ∉ vs → σ'[j]? = σ[j]?) (he : ∀ j, j ∉ vs → e1[j]? = e[j]?)
    (hn : ∀ j ∈ vs, ∀ s, e1[j]? = some s → SlotR K G H s (σ'[j]?).join) : Rel K c G H σ' e1 := by
  have at_ : ∀ (j : Nat) (t : S), e1[j]? = some t → t.own = true → j ∉ vs ∧ e[j]? = some t ∧ σ'[j]? = σ[j]? := fun j t h o => by
    by_cases z : j ∈ vs
    · have := ho1 j z t h; rw [o] at this; cases this
    · exact ⟨z, by rw [← he j z]; exact h, hs j z⟩
  refine ⟨by rw [hl, hle]; exact r.len, fun j t h => ?_, r.gh, r.keep, r.gsub, r.gnew, fun a ⟨j, t, h1, h2, h3⟩ => ?_, fun j k t u a h1 h2 h3 h4 h5 h6 => ?_, fun j a h => ?_, by rw [hle]; exact r.ln⟩
  · by_cases z : j ∈ vs
    · exact hn j z t h
    · rw [hs j z]; exact r.sl j t (by rw [← he j z]; exact h)
  · obtain ⟨_, q1, q2⟩ := at_ j t h1 h2
    exact r.own a ⟨j, t, q1, h2, by rw [← q2]; exact h3⟩
  · obtain ⟨_, q1, q2⟩ := at_ j t h1 h3
    obtain ⟨_, p1, p2⟩ := at_ k u h2 h4
    exact r.inj j k t u a q1 p1 h3 h4 (by rw [← q2]; exact h5) (by rw [← p2]; exact h6)
  · obtain ⟨q1, t, q2, q3⟩ := r.rfs j a h
    have z : j ∉ vs := fun z => by have := ho j z t q2; rw [own_of q3] at this; cases this
    exact ⟨by rw [hs j z]; exact q1, t, by rw [he j z]; exact q2, q3⟩
theorem OwnAt.swap (ho1 : okV e1 vs) (hs : ∀ j, j ∉ vs → σ'[j]? = σ[j]?) (he : ∀ j, j ∉ vs → e1[j]? = e[j]?) {a : Addr} (h : OwnAt σ' e1 a) : OwnAt σ e a := by
  obtain ⟨j, t, h1, h2, h3⟩ := h
  have z : j ∉ vs := fun z => by have := ho1 j z t h1; rw [h2] at this; cases this
  exact ⟨j, t, by rw [← he j z]; exact h1, h2, by rw [← hs j z]; exact h3⟩
theorem okV_wipe (e : List S) (vs : List Nat) : okV (wipeE e vs) vs := fun v hv t h => by
  rcases wipeE_at h with ⟨_, rfl⟩ | ⟨z, _⟩
  · rfl
  · exact absurd hv z
theorem Rel.wipe (r : Rel K c G H σ e) (ho : okV e vs) : Rel K c G H (L2.wipe σ vs) (wipeE e vs) :=
  r.swap (wipe_length σ vs) (wipeE_len e vs) ho (okV_wipe e vs) (fun j h => wipe_at h) (fun j h => wipeE_out h) fun j hj s h => by
    rcases wipeE_at h with ⟨_, rfl⟩ | ⟨z, _⟩
    · trivial
    · exact absurd hj z
/-- a step under other slots at vs -/
theorem Step.swap {σ2 : St} {ea eb : List S} (st : Step K c σ2 G1 H1 ea G2 H2 eb) (hl : σ'.length = σ2.length) (hle : e2.length = eb.length) (hoa : okV ea vs) (ho1 : okV e1 vs) (hob : okV eb vs) (ho2 : okV e2 vs)
    (hs : ∀ j, j ∉ vs → σ'[j]? = σ2[j]?) (he1 : ∀ j, j ∉ vs → e1[j]? = ea[j]?) (he2 : ∀ j, j ∉ vs → e2[j]? = eb[j]?) (hn : ∀ j ∈ vs, ∀ s, e2[j]? = some s → SlotR K G2 H2 s (σ'[j]?).join) : Step K c σ' G1 H1 e1 G2 H2 e2 where
  rel := st.rel.swap hl hle hob ho2 hs he2 hn
  sg := st.sg
  fr := fun a o h n => st.fr a o h fun z => n (OwnAt.swap hoa (fun j hj => (hs j hj).symm) (fun j hj => (he1 j hj).symm) z)
  gn := fun a h => (st.gn a h).imp_right fun z => z.imp_right fun q => OwnAt.swap hoa (fun j hj => (hs j hj).symm) (fun j hj => (he1 j hj).symm) q
  ow := fun a h => OwnAt.swap hoa (fun j hj => (hs j hj).symm) (fun j hj => (he1 j hj).symm) (st.ow a (OwnAt.swap ho2 hs he2 h))
  th := st.th
end
abbrev WF : WX := fun _ _ _ _ => False
abbrev XF : XD := fun _ _ => False
theorem ke_false {K : PySem.W.Frag} {c : C0} {W : WX} {σ : St} {G H : Hp} {e : List S} : KE K c W XF σ G H e := fun _ _ _ _ _ _ _ _ h => h.elim
structure DTs (X : Cx) (c : C0) (W : WX) (ifs : List Expr) (t : TDT) : Prop where
  pts : PTs X ifs (liftT X.K c W t)
def dYes : TDT := fun _ e Q => Q true e
theorem PTs.imp {X : Cx} {e : List Expr} {t t' : TT} (h : PTs X e t) (i : ∀ σ H Q, t' σ H Q → t σ H Q) : PTs X e t' := ⟨fun pins s σ H Q I q => h.run pins s σ H Q I (i σ H Q q)⟩
theorem dts_nil {X : Cx} {c : C0} {W : WX} : DTs X c W [] dYes := ⟨PTs.imp pts_nil fun σ H Q ⟨G, e, Qd, Xd, rel, h, hQ, hX⟩ => hQ true e G H (Step.refl rel) h⟩
theorem dts_one {X : Cx} {c : C0} {W : WX} {cx : Expr} {t : TDT} (h : DT X c W cx t) : DTs X c W [cx] t := ⟨pts_one h.pt⟩

/-- what a turn makes of what was made so far -/
abbrev TBD := List D → List S → (List D → List S → Prop) → Prop
/-- the turns of a comprehension: e the slots (the block's own wiped), acc what is made so far -/
def lcN (t : TGD) (tt : TDT) (bd : TBD) (vs : List Nat) (Q : List D → List S → Prop) : List D → List D → List S → Prop
  | [], acc, e => Q acc e
  | x :: r, acc, e => t x e fun e2 => tt XF e2 fun b e3 => if b = true then bd acc e3 fun acc' e4 => okV e4 vs ∧ lcN t tt bd vs Q r acc' (wipeE e4 vs) else okV e3 vs ∧ lcN t tt bd vs Q r acc (wipeE e3 vs)
def bdE (te : TDE) : TBD := fun acc e k => te XF e fun ρ e4 => ∃ d, see e4 ρ = some d ∧ acc.length < 1000000 ∧ k (acc ++ [d]) (fz e4 ρ)
def bdI (ti1 : TDI) (t1 : TGD) (tt1 : TDT) (te : TDE) (vs1 : List Nat) : TBD := fun acc e k => ti1 XF e fun ys e4 => okV e4 vs1 ∧ lcN t1 tt1 (bdE te) vs1 k ys acc (wipeE e4 vs1)
def dLc (ti : TDI) (t : TGD) (tt : TDT) (te : TDE) (vs : List Nat) : TDE := fun Xd e Q => ti Xd e fun xs e1 => okV e1 vs ∧ lcN t tt (bdE te) vs (fun acc e' => Q (.tl acc) (backE e' e1 vs)) xs [] (wipeE e1 vs)
def dLc2 (ti : TDI) (t : TGD) (tt : TDT) (ti1 : TDI) (t1 : TGD) (tt1 : TDT) (te : TDE) (vs vs1 : List Nat) : TDE := fun Xd e Q => ti Xd e fun xs e1 => okV e1 vs ∧ lcN t tt (bdI ti1 t1 tt1 te vs1) vs (fun acc e' => Q (.tl acc) (backE e' e1 vs)) xs [] (wipeE e1 vs)
theorem wipe_in {τ : St} {vs : List Nat} {j : Nat} (z : j ∈ vs) (hj : j < τ.length) : (wipe τ vs)[j]? = some none := by
  induction vs with
  | nil => cases z
  | cons v us ih =>
    unfold wipe
    by_cases q : v = j
    · subst q; rw [List.getElem?_set_self (by rw [wipe_length]; exact hj)]
    · rw [List.getElem?_set_ne q]
      exact ih (by rcases List.mem_cons.mp z with w | w; exact absurd w.symm q; exact w)
theorem only_wipe {ts vs : List Nat} {σ σ2 : St} (o : Only ts (wipe σ vs) σ2) (h : ∀ j ∈ ts, j ∈ vs) : wipe σ2 vs = wipe σ vs := by
  apply List.ext_getElem?
  intro j
  by_cases z : j ∈ vs
  · -- both none there
    have k : ∀ (τ : St), j < τ.length → (wipe τ vs)[j]? = some none := fun τ hj => by
      have : ∀ us : List Nat, j ∈ us → (wipe τ us)[j]? = some none := fun us => by
        induction us with
        | nil => intro h; cases h
        | cons v us ih =>
          intro hm
          unfold wipe
          by_cases q : v = j
          · subst q; rw [List.getElem?_set_self (by rw [wipe_length]; exact hj)]
          · rw [List.getElem?_set_ne q]
            exact ih (by rcases List.mem_cons.mp hm with w | w; exact absurd w.symm q; exact w)
      exact this vs z
    by_cases hj : j < σ.length
    · rw [k σ hj, k σ2 (by rw [o.1, wipe_length]; exact hj)]
    · rw [List.getElem?_eq_none (by rw [wipe_length, o.1, wipe_length]; omega), List.getElem?_eq_none (by rw [wipe_length]; omega)]
  · rw [wipe_at z, o.2 j fun q => z (h j q)]

/-- kept since a ground, but for the own things ow -/
structure Ext0 (Gb Hb : Hp) (ow : Addr → Prop) (G H : Hp) : Prop where
  sg : Same Gb G
  fr : ∀ a o, Hb a = some o → ¬ ow a → H a = some o
  gn : ∀ a, G a ≠ none → Gb a ≠ none ∨ Hb a = none ∨ ow a
  th : ∀ a, Hb a ≠ none → H a ≠ none
/-- the state inside a comprehension whose new list is at L -/
structure LS (K : PySem.W.Frag) (c : C0) (Gb Hb : Hp) (ow : Addr → Prop) (L : Addr) (n : Nat) (σ : St) (G H : Hp) (e : List S) (acc : List D) (avs : List V) : Prop where
  ext : Ext0 Gb Hb ow G H
  rel : Rel K c G H σ e
  own : ∀ a, OwnAt σ e a → ow a
  hL : H L = some (.lst avs)
  gL : G L = none
  rd : RepDs K G acc avs
  len : e.length = n
section
variable {K : PySem.W.Frag} {c : C0} {Gb Hb : Hp} {ow : Addr → Prop} {L : Addr} {n : Nat} {σ σ' : St} {G H G1 H1 : Hp} {e e1 : List S} {acc : List D} {avs : List V} {vs : List Nat}
theorem LS.step (ls : LS K c Gb Hb ow L n σ G H e acc avs) (nL : ¬ ow L) (bL : Hb L = none) (st : Step K c σ G H e G1 H1 e1) : LS K c Gb Hb ow L n σ G1 H1 e1 acc avs where
  ext := ⟨ls.ext.sg.trans st.sg, fun a o h k => st.fr a o (ls.ext.fr a o h k) fun z => k (ls.own a z), fun a h => by
    rcases st.gn a h with q | q | q
    · exact ls.ext.gn a q
    · cases z : Hb a with
      | none => exact .inr (.inl rfl)
      | some o => exact absurd q (ls.ext.th a (by rw [z]; simp))
    · exact .inr (.inr (ls.own a q)), fun a h => st.th a (ls.ext.th a h)⟩
  rel := st.rel
  own := fun a h => ls.own a (st.ow a h)
  hL := st.fr L _ ls.hL fun z => nL (ls.own L z)
  gL := by
    cases q : G1 L with
    | none => rfl
    | some o =>
      rcases st.gn L (by rw [q]; simp) with z | z | z
      · exact absurd ls.gL z
      · rw [ls.hL] at z; cases z
      · exact absurd (ls.own L z) nL
  rd := RepDs.mono st.sg ls.rd
  len := by rw [← st.rel.len, ls.rel.len]; exact ls.len
/-- other slots at vs -/
theorem LS.swap (ls : LS K c Gb Hb ow L n σ G H e acc avs) (hl : σ'.length = σ.length) (hle : e1.length = e.length) (ho : okV e vs) (ho1 : okV e1 vs) (hs : ∀ j, j ∉ vs → σ'[j]? = σ[j]?) (he : ∀ j, j ∉ vs → e1[j]? = e[j]?)
    (hn : ∀ j ∈ vs, ∀ s, e1[j]? = some s → SlotR K G H s (σ'[j]?).join) : LS K c Gb Hb ow L n σ' G H e1 acc avs :=
  ⟨ls.ext, ls.rel.swap hl hle ho ho1 hs he hn, fun a h => ls.own a (OwnAt.swap ho1 hs he h), ls.hL, ls.gL, ls.rd, by rw [hle]; exact ls.len⟩
theorem LS.wipe (ls : LS K c Gb Hb ow L n σ G H e acc avs) (ho : okV e vs) : LS K c Gb Hb ow L n (L2.wipe σ vs) G H (wipeE e vs) acc avs :=
  ls.swap (wipe_length σ vs) (wipeE_len e vs) ho (okV_wipe e vs) (fun j h => wipe_at h) (fun j h => wipeE_out h) fun j hj s h => by
    rcases wipeE_at h with ⟨_, rfl⟩ | ⟨z, _⟩
    · trivial
    · exact absurd hj z
/-- the list grows -/
theorem LS.put {d : D} {v : V} (ls : LS K c Gb Hb ow L n σ G H e acc avs) (nL : ¬ ow L) (bL : Hb L = none) (cL : c.H0 L = none) (rd : RepD K G d v) : LS K c Gb Hb ow L n σ G (upd H L (.lst (avs ++ [v]))) e (acc ++ [d]) (avs ++ [v]) where
  ext := ⟨ls.ext.sg, fun a o h k => by
      have hne : a ≠ L := fun z => by subst z; rw [bL] at h; cases h
      rw [upd_ne hne]; exact ls.ext.fr a o h k, ls.ext.gn, fun a h => by
      by_cases z : a = L
      · subst z; rw [upd_same]; simp
      · rw [upd_ne z]; exact ls.ext.th a h⟩
  rel := ⟨ls.rel.len, fun j s h => (ls.rel.sl j s h).mono (Same.refl _) fun a o q1 q2 q3 => by
      have hne : a ≠ L := fun z => by
        subst z
        refine nL (ls.own a ⟨j, s, h, q1, ?_⟩)
        cases w : σ[j]? with
        | none => rw [w] at q2; cases q2
        | some x => rw [w] at q2; cases q2; rfl
      rw [upd_ne hne]; exact q3, fun a o q => by
      have hne : a ≠ L := fun z => by subst z; rw [ls.gL] at q; cases q
      rw [upd_ne hne]; exact ls.rel.gh a o q, fun a o q1 q2 => by
      have hne : a ≠ L := fun z => by subst z; rw [cL] at q1; cases q1
      rw [upd_ne hne]; exact ls.rel.keep a o q1 q2, ls.rel.gsub, ls.rel.gnew, ls.rel.own, ls.rel.inj, ls.rel.rfs, ls.rel.ln⟩
  own := ls.own
  hL := upd_same
  gL := ls.gL
  rd := ls.rd.append (.cons rd .nil)
  len := ls.len
theorem LS.len_acc (ls : LS K c Gb Hb ow L n σ G H e acc avs) : acc.length = avs.length := ls.rd.length
end
theorem wipe_wipe {σ σ2 : St} {vs vs1 : List Nat} (h : wipe σ2 vs = wipe σ vs) (hv : ∀ j ∈ vs1, j ∈ vs) : wipe (wipe σ2 vs1) vs = wipe σ vs := by
  rw [← h]
  apply List.ext_getElem?
  intro j
  by_cases z : j ∈ vs
  · by_cases hj : j < σ2.length
    · rw [wipe_in z hj, wipe_in z (by rw [wipe_length]; exact hj)]
    · rw [List.getElem?_eq_none (by rw [wipe_length, wipe_length]; omega), List.getElem?_eq_none (by rw [wipe_length]; omega)]
  · rw [wipe_at z, wipe_at z, wipe_at fun q => z (hv j q)]
/-- THE LOOP of a comprehension -/
theorem lc_loop {K : PySem.W.Frag} {c : C0} {Gb Hb : Hp} {ow : Addr → Prop} {L : Addr} {n : Nat} (nL : ¬ ow L) (bL : Hb L = none) {t : TGD} {tt : TDT} {bd : TBD} {vs ts : List Nat} (hts : ∀ j ∈ ts, j ∈ vs) {σ : St} {G1 H1 : Hp} {e1 : List S} {xs : List D} {J : It} {acc0 : List D} {avs0 : List V}
    (ls : LS K c Gb Hb ow L n σ G1 H1 e1 acc0 avs0) (hv : okV e1 vs) (ok : ItOk K G1 J xs) {Qd : List D → List S → Prop} (h : lcN t tt bd vs Qd xs acc0 (wipeE e1 vs)) (B : St → Hp → (Hp → Prop) → Prop) (P : Hp → Prop)
    (hB : ∀ (σ2 : St) (G' H' : Hp) (e' : List S) (acc : List D) (avs : List V) (k : List D → List S → Prop) (Nx : Hp → Prop), LS K c Gb Hb ow L n σ2 G' H' e' acc avs → wipe σ2 vs = wipe σ vs → bd acc e' k →
      (∀ (σ3 : St) (G'' H'' : Hp) (e'' : List S) (acc' : List D) (avs' : List V), LS K c Gb Hb ow L n σ3 G'' H'' e'' acc' avs' → Same G' G'' → wipe σ3 vs = wipe σ vs → k acc' e'' → Nx H'') → B σ2 H' Nx)
    (hP : ∀ (G' H' : Hp) (e' : List S) (acc : List D) (avs : List V), LS K c Gb Hb ow L n (wipe σ vs) G' H' e' acc avs → Same G1 G' → okV e' vs → Qd acc e' → P H') :
    ∃ Wi : Nat → Nat → Hp → Prop, (∃ m, Wi 0 m H1) ∧ ∀ i m H, Wi i m H → (J.stop i H ∧ P H) ∨ (J.go i H ∧ ∃ Nx : Hp → Prop, (∀ H', Nx H' → ∃ m', m' < m ∧ Wi (i + 1) m' H') ∧ ∀ x H', J.yld i H x H' → liftG K c ts t x (wipe σ vs) H' fun σ2 H2 => wipe σ2 vs = wipe σ vs ∧
      liftT K c WF tt σ2 H2 fun b H3 => if b = true then B σ2 H3 Nx else Nx H3) := by
  let I : Nat → Hp → Prop := fun i H' => ∃ (G' : Hp) (e' : List S) (acc : List D) (avs : List V), LS K c Gb Hb ow L n (wipe σ vs) G' H' e' acc avs ∧ Same G1 G' ∧ okV e' vs ∧ lcN t tt bd vs Qd (xs.drop i) acc e'
  refine ⟨fun i m H' => m = xs.length - i ∧ i ≤ xs.length ∧ I i H', ⟨_, rfl, Nat.zero_le _, G1, _, acc0, avs0, ls.wipe hv, Same.refl _, okV_wipe e1 vs, h⟩, ?_⟩
  rintro i m H2 ⟨rfl, hi, G2, e2, acc, avs, l2, sg, ov, h2⟩
  obtain ⟨ok1, ok2, ok3⟩ := ok G2 H2 sg l2.rel.gh
  by_cases hlt : i < xs.length
  · refine .inr ⟨ok1 i hlt, I (i + 1), fun H' q => ⟨xs.length - (i + 1), by omega, rfl, hlt, q⟩, fun v H3 y => ?_⟩
    obtain ⟨d, G3, hd, rd3, k1, k2, k3, k4⟩ := ok3 i v H3 y
    have hd := hd hlt
    have rd3 := rd3 hlt
    have hx : xs.drop i = d :: xs.drop (i + 1) := by
      rw [List.drop_eq_getElem_cons hlt]
      congr 1
      rw [List.getElem?_eq_getElem hlt] at hd
      exact Option.some.inj hd
    rw [hx] at h2
    have l3 := l2.step nL bL (Step.ext l2.rel k2 k1 k3 k4)
    refine ⟨G3, e2, d, _, l3.rel, rd3, h2, fun σ4 e4 r4 o4 p4 b4 q4 => ?_⟩
    have hw4 := only_wipe o4 hts
    refine ⟨hw4, ?_⟩
    have s4 : ∀ j, j ∉ vs → σ4[j]? = (wipe σ vs)[j]? := fun j hj => o4.2 j fun z => hj (hts j z)
    have e42 : ∀ j, j ∉ vs → e4[j]? = e2[j]? := fun j hj => p4.2 j fun z => hj (hts j z)
    have ov4 : okV e4 vs := fun j hj s h => by
      by_cases z : j ∈ ts
      · exact b4 j z s h
      · rw [p4.2 j z] at h
        exact ov j hj s h
    have l4 : LS K c Gb Hb ow L n σ4 G3 H3 e4 acc avs := ⟨l3.ext, r4, fun a z => l3.own a (OwnAt.swap ov4 s4 e42 z), l3.hL, l3.gL, l3.rd, by rw [p4.1]; exact l3.len⟩
    -- from behind a turn on, under the wiped slots
    have again : ∀ {σ5 : St} {G5 H5 : Hp} {e5 : List S} {acc5 : List D} {avs5 : List V}, LS K c Gb Hb ow L n σ5 G5 H5 e5 acc5 avs5 → Same G1 G5 → wipe σ5 vs = wipe σ vs → okV e5 vs → lcN t tt bd vs Qd (xs.drop (i + 1)) acc5 (wipeE e5 vs) → I (i + 1) H5 := fun {σ5 G5 H5 e5 acc5 avs5} l5 g5 w5 o5 q5 => by
      have l6 := l5.wipe o5
      rw [w5] at l6
      exact ⟨G5, _, acc5, avs5, l6, g5, okV_wipe e5 vs, q5⟩
    refine ⟨G3, e4, _, XF, r4, q4, fun b e5 G5 H5 s5 h5 => ?_, ke_false⟩
    have l5 := l4.step nL bL s5
    have g5 : Same G1 G5 := sg.trans (k1.trans s5.sg)
    cases b with
    | false =>
      show if false = true then B σ4 H5 (I (i + 1)) else I (i + 1) H5
      rw [if_neg Bool.false_ne_true] at h5 ⊢
      exact again l5 g5 hw4 h5.1 h5.2
    | true =>
      show if true = true then B σ4 H5 (I (i + 1)) else I (i + 1) H5
      rw [if_pos rfl] at h5 ⊢
      exact hB σ4 G5 H5 e5 acc avs _ _ l5 hw4 h5 fun σ6 G6 H6 e6 acc6 avs6 l6 g6 w6 q6 => again l6 (g5.trans g6) w6 q6.1 q6.2
  · have e : i = xs.length := by omega
    subst e
    refine .inl ⟨ok2 _ (Nat.le_refl _), ?_⟩
    rw [List.drop_length] at h2
    exact hP G2 H2 e2 acc avs l2 sg ov h2
section
variable {K : PySem.W.Frag} {c : C0} {W : WX} {ti ti1 : TDI} {t t1 : TGD} {tt tt1 : TDT} {te : TDE} {vs vs1 ts ts1 : List Nat} {σ : St} {H : Hp} {Q : VK}
/-- an element is put behind -/
theorem bdE_run {Gb Hb : Hp} {ow : Addr → Prop} {L : Addr} {n : Nat} (nL : ¬ ow L) (bL : Hb L = none) (cL : c.H0 L = none) {σ2 : St} {G' H' : Hp} {e' : List S} {acc : List D} {avs : List V} {k : List D → List S → Prop} {Nx : Hp → Prop} (l : LS K c Gb Hb ow L n σ2 G' H' e' acc avs) (h : bdE te acc e' k)
    (hk : ∀ (G'' H'' : Hp) (e'' : List S) (acc' : List D) (avs' : List V), LS K c Gb Hb ow L n σ2 G'' H'' e'' acc' avs' → Same G' G'' → k acc' e'' → Nx H'') :
    liftE K c WF te σ2 H' fun y H4 => ∃ acc, H4 L = some (.lst acc) ∧ acc.length < sizeLine ∧ Nx (upd H4 L (.lst (acc ++ [y]))) := by
  refine ⟨G', e', _, XF, l.rel, h, fun ρ e6 v6 G6 H6 s6 r6 h6 => ?_, ke_false⟩
  obtain ⟨d6, sd, hlen, h6⟩ := h6
  obtain ⟨G7, s7, rd7, _⟩ := Step.asD l.rel s6 r6 sd
  have l7 := l.step nL bL s7
  refine ⟨avs, l7.hL, by rw [← l7.len_acc]; exact Nat.lt_of_lt_of_le hlen mil, ?_⟩
  exact hk G7 _ _ _ _ (l7.put nL bL cL rd7) s7.sg h6
/-- the end of all -/
theorem lc_end {e1 : List S} {G1 H1 : Hp} {G : Hp} {e : List S} {L : Addr} {Qd : R → List S → Prop} (rel : Rel K c G H σ e) (s1 : Step K c σ G H e G1 H1 e1) (hL : H1 L = none) (hv : okV e1 vs)
    (hQ : ∀ (ρ : R) (e' : List S) (v : V) (G' H' : Hp), Step K c σ G H e G' H' e' → RepR K H G' H' σ e' ρ v → Qd ρ e' → Q v H') {G2 H2 : Hp} {e2 : List S} {acc : List D} {avs : List V}
    (l : LS K c G1 H1 (OwnAt σ e1) L e1.length (wipe σ vs) G2 H2 e2 acc avs) (o2 : okV e2 vs) (h2 : Qd (.tl acc) (backE e2 e1 vs)) : Q (.ref L) H2 := by
  have oB : okV (backE e2 e1 vs) vs := fun j hj s h => by
    rcases backE_at h with ⟨_, rfl⟩ | ⟨z, _⟩
    · cases q : e1[j]? with
      | none => rfl
      | some s' => exact hv j hj s' q
    · exact absurd hj z
  have lB : LS K c G1 H1 (OwnAt σ e1) L e1.length σ G2 H2 (backE e2 e1 vs) acc avs := l.swap (by rw [wipe_length]) (backE_len e2 e1 vs) o2 oB (fun j hj => (wipe_at hj).symm) (fun j hj => backE_out hj) fun j hj s h => by
    rcases backE_at h with ⟨_, rfl⟩ | ⟨z, _⟩
    · cases q : e1[j]? with
      | none => trivial
      | some s' =>
        have k := s1.rel.sl j s' q
        have o := hv j hj s' q
        cases s' with
        | no => trivial
        | d x => obtain ⟨w, hw, rw'⟩ := k; exact ⟨w, hw, RepD.mono l.ext.sg rw'⟩
        | ol _ => cases o
        | od _ _ => cases o
        | well _ => cases o
        | wl _ => cases o
    · exact absurd hj z
  have sB : Step K c σ G1 H1 e1 G2 H2 (backE e2 e1 vs) := ⟨lB.rel, lB.ext.sg, lB.ext.fr, lB.ext.gn, lB.own, lB.ext.th⟩
  refine hQ (.tl acc) _ (.ref L) G2 H2 (s1.trans rel sB) (RepR.back s1 (ρ := .tl acc) ⟨L, avs, rfl, l.hL, l.rd, l.gL, hL, fun z => ?_⟩) h2
  exact s1.rel.freshO hL (sB.ow L z)
theorem ls_start {G1 H1 : Hp} {e1 : List S} {L : Addr} (r1 : Rel K c G1 H1 σ e1) (hL : H1 L = none) : LS K c G1 H1 (OwnAt σ e1) L e1.length σ G1 (upd H1 L (.lst [])) e1 [] [] := by
  have st := Step.ext r1 (same_upd (o := .lst []) hL) (Same.refl _) (r1.gh.trans (same_upd hL)) fun a h => .inl h
  exact ⟨⟨st.sg, st.fr, st.gn, st.th⟩, st.rel, fun _ h => h, upd_same, r1.freshG hL, .nil, rfl⟩
theorem lift_lc (hts : ∀ j ∈ ts, j ∈ vs) (h : liftE K c W (dLc ti t tt te vs) σ H Q) : tLc (liftI K c W ti) (liftG K c ts t) (liftT K c WF tt) (liftE K c WF te) vs σ H Q := by
  obtain ⟨G, e, Qd, Xd, rel, h, hQ, hX⟩ := h
  refine ⟨G, e, _, Xd, rel, h, fun xs e1 J G1 H1 s1 ok h1 => ?_, hX⟩
  obtain ⟨hv, h1⟩ := h1
  intro L hL
  have nL := s1.rel.freshO hL
  have cL := s1.rel.fresh0 hL
  exact lc_loop nL hL hts (ls_start s1.rel hL) hv ok h1 (fun σ2 H3 Nx => liftE K c WF te σ2 H3 fun y H4 => ∃ acc, H4 L = some (.lst acc) ∧ acc.length < sizeLine ∧ Nx (upd H4 L (.lst (acc ++ [y]))))
    (fun H => Q (.ref L) H) (fun σ2 G' H' e' acc avs k Nx l w hb hk => bdE_run nL hL cL l hb fun G'' H'' e'' acc' avs' l' sg q => hk σ2 G'' H'' e'' acc' avs' l' sg w q)
    fun G' H' e' acc avs l sg o q => lc_end rel s1 hL hv hQ l o q
theorem lift_lc2 (hts : ∀ j ∈ ts, j ∈ vs) (hts1 : ∀ j ∈ ts1, j ∈ vs1) (hv1 : ∀ j ∈ vs1, j ∈ vs) (h : liftE K c W (dLc2 ti t tt ti1 t1 tt1 te vs vs1) σ H Q) :
    tLc2 (liftI K c W ti) (liftG K c ts t) (liftT K c WF tt) (liftI K c WF ti1) (liftG K c ts1 t1) (liftT K c WF tt1) (liftE K c WF te) vs vs1 σ H Q := by
  obtain ⟨G, e, Qd, Xd, rel, h, hQ, hX⟩ := h
  refine ⟨G, e, _, Xd, rel, h, fun xs e1 J G1 H1 s1 ok h1 => ?_, hX⟩
  obtain ⟨hv, h1⟩ := h1
  intro L hL
  have nL := s1.rel.freshO hL
  have cL := s1.rel.fresh0 hL
  refine lc_loop nL hL hts (ls_start s1.rel hL) hv ok h1 (fun σ2 H3 Nx => liftI K c WF ti1 σ2 H3 fun J1 H4 => ∃ W1 : Nat → Nat → Hp → Prop, (∃ m, W1 0 m H4) ∧ ∀ j k H, W1 j k H →
      (J1.stop j H ∧ Nx H) ∨ (J1.go j H ∧ ∃ Nx1 : Hp → Prop, (∀ H', Nx1 H' → ∃ k', k' < k ∧ W1 (j + 1) k' H') ∧ ∀ x H', J1.yld j H x H' → liftG K c ts1 t1 x (wipe σ2 vs1) H' fun σ3 H5 => wipe σ3 vs1 = wipe σ2 vs1 ∧ liftT K c WF tt1 σ3 H5 fun b H6 =>
        if b = true then liftE K c WF te σ3 H6 fun y H7 => ∃ acc, H7 L = some (.lst acc) ∧ acc.length < sizeLine ∧ Nx1 (upd H7 L (.lst (acc ++ [y]))) else Nx1 H6))
    (fun H => Q (.ref L) H) ?_ fun G' H' e' acc avs l sg o q => lc_end rel s1 hL hv hQ l o q
  intro σ2 G' H' e' acc avs k Nx l w hb hk
  refine ⟨G', e', _, XF, l.rel, hb, fun ys e4 J1 G4 H4 s4 ok4 h4 => ?_, ke_false⟩
  obtain ⟨o4, h4⟩ := h4
  have l4 := l.step nL hL s4
  exact lc_loop nL hL hts1 l4 o4 ok4 h4 (fun σ3 H6 Nx1 => liftE K c WF te σ3 H6 fun y H7 => ∃ acc, H7 L = some (.lst acc) ∧ acc.length < sizeLine ∧ Nx1 (upd H7 L (.lst (acc ++ [y])))) Nx
    (fun σ3 G5 H5 e5 acc5 avs5 k5 Nx5 l5 w5 hb5 hk5 => bdE_run nL hL cL l5 hb5 fun G'' H'' e'' acc' avs' l' sg q => hk5 σ3 G'' H'' e'' acc' avs' l' sg w5 q)
    fun G6 H6 e6 acc6 avs6 l6 sg6 o6 q6 => hk (wipe σ2 vs1) G6 H6 e6 acc6 avs6 l6 (s4.sg.trans sg6) (wipe_wipe w hv1) q6
end
/-! ### the rules -/
section
variable {X : Cx} {c : C0} {W : WX} {elt tg iter tg1 iter1 : Expr} {ifs ifs1 : List Expr} {scope : Scope} {own : List (Str × Nat)} {pos spos : Pos} {ti ti1 : TDI} {t t1 : TGD} {tt tt1 : TDT} {te : TDE} {ts ts1 vs1 : List Nat}
abbrev Blk (X : Cx) (scope : Scope) (s : Shared) (H : Hp) (C : Addr) (cl : List (Str × Addr)) (fp : List Addr) : Cx := X.blk s H scope (compEnvC scope cl C X.env) fp
theorem de_lc (hc : X.calm = true) (hN : X.N.Nodup) (own : List (Str × Nat)) (ok : blkC X.N X.env.scope scope own = true) (hi : DI X c W tg iter ti) (hg : ∀ s H C cl fp, DG (Blk X scope s H C cl fp) c tg ts t) (ht : ∀ s H C cl fp, DTs (Blk X scope s H C cl fp) c WF ifs tt)
    (he : ∀ s H C cl fp, DE (Blk X scope s H C cl fp) c WF elt te) (hts : ∀ j ∈ ts, j ∈ own.map (·.2) := by decide) (hs : ∀ x, foldedSetIterable iter X.env x = pure x := by intro _; rfl) :
    DE X c W (.ListComp elt [⟨tg, iter, ifs, 0⟩] scope pos) (dLc ti t tt te (own.map (·.2))) :=
  ⟨PE.imp (pe_lc hc hN hi.pi (blkOk_by ok) (fun s H C cl fp => (hg s H C cl fp).pg) (fun s H C cl fp => (ht s H C cl fp).pts) (fun s H C cl fp => (he s H C cl fp).pe) hs) fun σ H Q h => lift_lc hts h⟩
theorem de_lc2 (hc : X.calm = true) (hN : X.N.Nodup) (own : List (Str × Nat)) (vs1 : List Nat) (ok : blkC X.N X.env.scope scope own = true) (hi : DI X c W tg iter ti) (hg : ∀ s H C cl fp, DG (Blk X scope s H C cl fp) c tg ts t) (ht : ∀ s H C cl fp, DTs (Blk X scope s H C cl fp) c WF ifs tt)
    (hi1 : ∀ s H C cl fp, DI (Blk X scope s H C cl fp) c WF tg1 iter1 ti1) (hg1 : ∀ s H C cl fp, DG (Blk X scope s H C cl fp) c tg1 ts1 t1) (ht1 : ∀ s H C cl fp, DTs (Blk X scope s H C cl fp) c WF ifs1 tt1)
    (he : ∀ s H C cl fp, DE (Blk X scope s H C cl fp) c WF elt te) (hv : ∀ i ∈ vs1, i ∈ own.map (·.2) := by decide) (hts : ∀ j ∈ ts, j ∈ own.map (·.2) := by decide) (hts1 : ∀ j ∈ ts1, j ∈ vs1 := by decide) (hs : ∀ x, foldedSetIterable iter X.env x = pure x := by intro _; rfl) (hs1 : ∀ env x, foldedSetIterable iter1 env x = pure x := by intro _ _; rfl) :
    DE X c W (.ListComp elt [⟨tg, iter, ifs, 0⟩, ⟨tg1, iter1, ifs1, 0⟩] scope pos) (dLc2 ti t tt ti1 t1 tt1 te (own.map (·.2)) vs1) :=
  ⟨PE.imp (pe_lc2 hc hN hi.pi (blkOk_by ok) hv (fun s H C cl fp => (hg s H C cl fp).pg) (fun s H C cl fp => (ht s H C cl fp).pts) (fun s H C cl fp => (hi1 s H C cl fp).pi) (fun s H C cl fp => (hg1 s H C cl fp).pg) (fun s H C cl fp => (ht1 s H C cl fp).pts) (fun s H C cl fp => (he s H C cl fp).pe) hs hs1) fun σ H Q h => lift_lc2 hts hts1 hv h⟩
/-- name = [..] on one line -/
theorem ds_setLc {i : Nat} {y : Str} {py : Pos} (hc : X.calm = true) (hN : X.N.Nodup) (own : List (Str × Nat)) (ok : blkC X.N X.env.scope scope own = true) (hi : DI X c W tg iter ti) (hg : ∀ s H C cl fp, DG (Blk X scope s H C cl fp) c tg ts t) (ht : ∀ s H C cl fp, DTs (Blk X scope s H C cl fp) c WF ifs tt)
    (he : ∀ s H C cl fp, DE (Blk X scope s H C cl fp) c WF elt te) (hy : X.N[i]? = some y := by rfl) (hyl : X.env.scope.names.lookup y = some .local := by rfl) (hsw : swapsWith (.ListComp elt [⟨tg, iter, ifs, 0⟩] scope pos) (some (.Name y py)) spos.line X.env = pure true := by exact sw_true rfl rfl rfl (by decide +kernel))
    (hts : ∀ j ∈ ts, j ∈ own.map (·.2) := by decide) (hs : ∀ x, foldedSetIterable iter X.env x = pure x := by intro _; rfl) : DS X c W (.Assign [.Name y py] (.ListComp elt [⟨tg, iter, ifs, 0⟩] scope pos) spos) (dSet i (dLc ti t tt te (own.map (·.2)))) :=
  ⟨PS.imp (ps_setLc hc hN hy hyl hsw hi.pi (blkOk_by ok) (fun s H C cl fp => (hg s H C cl fp).pg) (fun s H C cl fp => (ht s H C cl fp).pts) (fun s H C cl fp => (he s H C cl fp).pe) hs) fun Dx σ H h => by
    have k := lift_lc hts (lift_set h)
    exact k⟩
end
end L3

/-! L3: built-in calls, slices, methods of lists, calls of defs, a def's body -/
namespace L3
open PySem PySem.Spec PyProof.Rows L2

/-! ### f(e), f a built-in -/
section
variable {X : Cx} {c : C0} {W : WX} {ex : Expr} {te : TDE} {x : Str} {p pos : Pos} {id T : String} {r : List V → Hp → VK → Prop} {r31 : R31}
theorem de_callB (hc : CallR X (.builtin id) r) (h3 : Un3 X.K (fun x H Q => r [x] H Q) r31) (hg : Gl X x) (hm : X.mg x = none) (hv : bootBuiltins x = some (.builtin id)) (ha : DE X c W ex te) (hn : x ≠ "__name__" := by decide) (hdb : (x == ("__debug__" : Str)) = false := by decide)
    (he : starEach (ex :: []) X.env = (false, eval ex X.env) :: starEach [] X.env := by rfl) (hpl : (backTo pos (starEach [] X.env)).any (·.1) = false := by rfl) : DE X c W (.Call (.Name x p) [ex] [] pos) (dUn r31 te) :=
  ⟨PE.imp (pe_callB hc hg hm hv (pa_cons ha.pe pa_nil he) hn hdb he hpl) fun σ H Q h => lift_un h3 h⟩
theorem de_callT (hc : CallR X (.type T) r) (h3 : Un3 X.K (fun x H Q => r [x] H Q) r31) (hg : Gl X x) (hm : X.mg x = none) (hv : bootBuiltins x = some (.type T)) (ha : DE X c W ex te) (hn : x ≠ "__name__" := by decide) (hdb : (x == ("__debug__" : Str)) = false := by decide)
    (he : starEach (ex :: []) X.env = (false, eval ex X.env) :: starEach [] X.env := by rfl) (hpl : (backTo pos (starEach [] X.env)).any (·.1) = false := by rfl) : DE X c W (.Call (.Name x p) [ex] [] pos) (dUn r31 te) :=
  ⟨PE.imp (pe_callTy hc hg hm hv (pa_cons ha.pe pa_nil he) hn hdb he hpl) fun σ H Q h => lift_un h3 h⟩
end
section
variable {K : PySem.W.Frag}
def D.len : D → Option Nat
  | .str x => some x.length
  | .lst xs => some xs.length
  | .tup xs => some xs.length
  | _ => none
def r31Len : R31 := fun d Q => ∃ n, d.len = some n ∧ n ≤ sizeLine ∧ Q (.d (.int n))
theorem u3_len : Un3 K (fun x H Q => ∃ y n, [x] = [y] ∧ LenV K y H n ∧ Q (.int n) H) r31Len := by
  rintro G H d x Qr Q sg h ⟨n, hl, hn, q⟩ k
  refine ⟨x, n, rfl, ?_, k _ _ _ _ (.d (.int _)) q⟩
  cases d with
  | str z => cases hl; rw [h.str]; exact ⟨hn, rfl⟩
  | lst xs => cases hl; obtain ⟨a, vs, rfl, ha, ra⟩ := h.lst sg; exact .inl ⟨vs, .inl (.inl ha), ra.length⟩
  | tup xs => cases hl; obtain ⟨a, vs, rfl, ha, ra⟩ := h.tup sg; exact .inr ⟨vs, ha, ra.length⟩
  | _ => cases hl
/-- all, any of bools -/
def blsOf : List D → Option (List Bool)
  | [] => some []
  | .bl b :: r => (blsOf r).map (b :: ·)
  | _ :: _ => none
theorem bls_vals {G : Hp} : ∀ {xs : List D} {vs : List V} {bs : List Bool}, RepDs K G xs vs → blsOf xs = some bs → vs = bs.map V.bl
  | _, _, _, .nil, e => by cases e; rfl
  | .bl b :: r, _, bs, .cons h q, e => by
    simp only [blsOf, Option.map_eq_some_iff] at e
    obtain ⟨cs, e1, rfl⟩ := e
    cases h
    rw [bls_vals q e1]; rfl
  | .non :: _, _, _, .cons _ _, e => by cases e
  | .int _ :: _, _, _, .cons _ _, e => by cases e
  | .str _ :: _, _, _, .cons _ _, e => by cases e
  | .tup _ :: _, _, _, .cons _ _, e => by cases e
  | .lst _ :: _, _, _, .cons _ _, e => by cases e
  | .dct _ _ :: _, _, _, .cons _ _, e => by cases e
  | .ins _ _ _ :: _, _, _, .cons _ _, e => by cases e
def r31All : R31 := fun d Q => ∃ xs bs, d = .lst xs ∧ blsOf xs = some bs ∧ Q (.d (.bl (bs.all id)))
def r31Any : R31 := fun d Q => ∃ xs bs, d = .lst xs ∧ blsOf xs = some bs ∧ Q (.d (.bl (bs.any id)))
theorem u3_all : Un3 K (fun x H Q => rAll K [x] H Q) r31All := by
  rintro G H d x Qr Q sg h ⟨xs, bs, rfl, hb, q⟩ k
  obtain ⟨a, vs, rfl, ha, ra⟩ := h.lst sg
  have e := bls_vals ra hb
  subst e
  exact ⟨a, bs, rfl, .inl (.inl ha), k _ _ _ _ (.d (.bl _)) q⟩
theorem u3_any : Un3 K (fun x H Q => rAny K [x] H Q) r31Any := by
  rintro G H d x Qr Q sg h ⟨xs, bs, rfl, hb, q⟩ k
  obtain ⟨a, vs, rfl, ha, ra⟩ := h.lst sg
  have e := bls_vals ra hb
  subst e
  exact ⟨a, bs, rfl, .inl (.inl ha), k _ _ _ _ (.d (.bl _)) q⟩
/-- list(x), tuple(x) -/
def r31List : R31 := fun d Q => ∃ xs, (d = .lst xs ∨ d = .tup xs) ∧ Q (.tl xs)
def r31Tuple : R31 := fun d Q => ∃ xs, (d = .lst xs ∨ d = .tup xs) ∧ Q (.d (.tup xs))
theorem u3_list : Un3 K (fun x H Q => ∃ p ys, [x] = [V.ref p] ∧ (SqL K H p ys ∨ SqT K H p ys) ∧ ∀ l, H l = none → Q (.ref l) (upd H l (.lst ys))) r31List := by
  rintro G H d x Qr Q sg h ⟨xs, rfl | rfl, q⟩ k
  · obtain ⟨a, vs, rfl, ha, ra⟩ := h.lst sg
    exact ⟨a, vs, rfl, .inl (.inl (.inl ha)), fun l hl => k _ _ _ _ (.nl hl ra) q⟩
  · obtain ⟨a, vs, rfl, ha, ra⟩ := h.tup sg
    exact ⟨a, vs, rfl, .inr ha, fun l hl => k _ _ _ _ (.nl hl ra) q⟩
theorem DV.data {G H : Hp} {d : D} {x : V} (h : DV K G H d x) (h1 : ∀ xs, d ≠ .lst xs) (h2 : ∀ ks xs, d ≠ .dct ks xs) : RepD K G d x := by
  rcases h with h | ⟨_, _, xs, h, _⟩ | ⟨_, ks, _, xs, h, _⟩
  · exact h
  · exact absurd h (h1 xs)
  · exact absurd h (h2 ks xs)
theorem u3_tuple : Un3 K (fun x H Q => ∃ p ys, [x] = [V.ref p] ∧ ((SqL K H p ys ∧ ∀ l, H l = none → Q (.ref l) (upd H l (.tup ys))) ∨ (SqT K H p ys ∧ Q (.ref p) H))) r31Tuple := by
  rintro G H d x Qr Q sg h ⟨xs, rfl | rfl, q⟩ k
  · obtain ⟨a, vs, rfl, ha, ra⟩ := h.lst sg
    exact ⟨a, vs, rfl, .inl ⟨.inl (.inl ha), fun l hl => k _ _ _ _ (.nt hl ra) q⟩⟩
  · have hd := h.data (fun _ z => by cases z) (fun _ _ z => by cases z)
    obtain ⟨a, vs, rfl, ha, ra⟩ := h.tup sg
    exact ⟨a, vs, rfl, .inr ⟨ha, k _ _ _ _ (.d hd) q⟩⟩
/-- int(x), abs(x), bool(x) of numbers -/
def r31Int : R31 := fun d Q => (∃ i, d = .int i ∧ Q (.d (.int i))) ∨ ∃ b, d = .bl b ∧ Q (.d (.int (if b then 1 else 0)))
theorem u3_int : Un3 K (fun x H Q => (∃ i, [x] = [V.int i] ∧ Q (.int i) H) ∨ ∃ k, [x] = [V.bl k] ∧ Q (.int (if k then 1 else 0)) H) r31Int := by
  rintro G H d x Qr Q sg h (⟨i, rfl, q⟩ | ⟨b, rfl, q⟩) k
  · exact .inl ⟨i, by rw [h.int], k _ _ _ _ (.d (.int _)) q⟩
  · exact .inr ⟨b, by rw [h.bl], k _ _ _ _ (.d (.int _)) q⟩
end

/-! ### isinstance of built-in types -/
def isTy : D → String → Bool
  | .non, "NoneType" => true
  | .bl _, "bool" => true
  | .bl _, "int" => true
  | .int _, "int" => true
  | .str _, "str" => true
  | .tup _, "tuple" => true
  | .lst _, "list" => true
  | .dct _ _, "dict" => true
  | _, _ => false
def tyOf : D → String
  | .non => "NoneType"
  | .bl _ => "bool"
  | .int _ => "int"
  | .str _ => "str"
  | .tup _ => "tuple"
  | .lst _ => "list"
  | .dct _ _ => "dict"
  | .ins _ _ _ => "?"
def known (T : String) : Bool := ["int", "bool", "str", "list", "tuple", "dict"].contains T
def D.isIns : D → Bool
  | .ins _ _ _ => true
  | _ => false
theorem kit_all : (["NoneType", "bool", "int", "str", "tuple", "list", "dict"].all fun a => ["int", "bool", "str", "list", "tuple", "dict"].all fun b => kitB a b == some (a == b || (a == "bool" && b == "int"))) = true := by decide +kernel
theorem isTy_eq {d : D} {T : String} (h : d.isIns = false) (hT : known T = true) : kitB (tyOf d) T = some (isTy d T) := by
  have ha : tyOf d ∈ ["NoneType", "bool", "int", "str", "tuple", "list", "dict"] := by cases d <;> simp_all [tyOf, D.isIns]
  have hb : T ∈ ["int", "bool", "str", "list", "tuple", "dict"] := by simpa [known] using hT
  have q := List.all_eq_true.mp (List.all_eq_true.mp kit_all _ ha) _ hb
  rw [beq_iff_eq] at q
  rw [q]
  simp only [List.mem_cons, List.not_mem_nil, or_false] at hb
  congr 1
  cases d with
  | ins _ _ _ => cases h
  | _ => rcases hb with rfl | rfl | rfl | rfl | rfl | rfl <;> simp [tyOf, isTy]
section
variable {K : PySem.W.Frag} {G H : Hp} {d : D} {x : V}
theorem DV.tyx (h : DV K G H d x) (sg : Same G H) (hn : d.isIns = false) : TyX K H x (.type (tyOf d)) := by
  cases d with
  | non => rw [h.non]; exact .base .non
  | bl b => rw [h.bl]; exact .base (.bl b)
  | int i => rw [h.int]; exact .base (.int i)
  | str z => rw [h.str]; exact .base (.str z)
  | tup xs =>
    obtain ⟨a, vs, rfl, ha, _⟩ := h.tup sg
    rcases ha with (ha | ⟨o, ha⟩) | ⟨o, its, n, ha, hc, _⟩
    · exact .base (.tup ha)
    · exact .fTuple ha
    · exact .kTuple ha hc
  | lst xs => obtain ⟨a, vs, rfl, ha, _⟩ := h.lst sg; exact .base (.lst ha)
  | dct ks xs => obtain ⟨a, vs, rfl, ha, _⟩ := h.dct sg; exact .base (.dK ha)
  | ins _ _ _ => cases hn
end
def r31Isi (Ts : List String) : R31 := fun d Q => d.isIns = false ∧ Q (.d (.bl (Ts.any (isTy d))))
theorem kitAny_all {K : PySem.W.Frag} {d : D} (h : d.isIns = false) : ∀ {Ts : List String}, (Ts.all known) = true → PySem.W.kitAny K (.type (tyOf d)) (Ts.map Value.type) = some (Ts.any (isTy d))
  | [], _ => kitAny_nil
  | T :: Ts, hT => by
    simp only [List.all_cons, Bool.and_eq_true] at hT
    have k1 := kit_ty (K := K) (isTy_eq h hT.1)
    have k2 := kitAny_all (K := K) h hT.2
    rw [List.map_cons, List.any_cons]
    exact kitAny_cons k1 (fun e => by rw [e, Bool.false_or]; exact k2) fun e => by rw [e, Bool.true_or]
section
variable {X : Cx} {c : C0} {W : WX} {ex : Expr} {te : TDE} {p p2 pos : Pos} {tn : Str} {T : String}
/-- isinstance(e, T) -/
theorem de_isi1 (T : String) (hT : known T = true) (hg : Gl X "isinstance") (hm : X.mg "isinstance" = none) (hgt : Gl X tn) (hmt : X.mg tn = none) (hvt : bootBuiltins tn = some (.type T)) (ha : DE X c W ex te) (hv : bootBuiltins "isinstance" = some (.builtin "isinstance") := by first | exact PyProof.Rows.boot_isinstance | decide +kernel)
    (hn : tn ≠ "__name__" := by decide) (hdb : (tn == ("__debug__" : Str)) = false := by decide)
    (he : starEach (ex :: [Expr.Name tn p2]) X.env = (false, eval ex X.env) :: starEach [Expr.Name tn p2] X.env := by rfl) (he2 : starEach (Expr.Name tn p2 :: []) X.env = (false, eval (Expr.Name tn p2) X.env) :: starEach [] X.env := by rfl) (hpl : (backTo pos (starEach [Expr.Name tn p2] X.env)).any (·.1) = false := by rfl) :
    DE X c W (.Call (.Name "isinstance" p) [ex, .Name tn p2] [] pos) (dUn (r31Isi [T]) te) := by
  refine ⟨PE.imp (pe_callB (r := rIsi X.K) call_isi hg hm hv (pa_cons ha.pe (pa_cons (pe_bltn (v := .ty T) hgt hmt hvt rfl hn hdb) pa_nil he2) he) (by decide) (by decide) he hpl) fun σ H Q h => ?_⟩
  refine lift_un (r := fun x H Q => rIsi X.K [x, .ty T] H Q) (fun G H d x Qr Q sg hd ⟨hi, q⟩ k => ?_) h
  refine ⟨x, .ty T, .type (tyOf d), .type T, isTy d T, rfl, .ty T, hd.tyx sg hi, kit_ty (isTy_eq hi hT), k _ _ _ _ (.d (.bl _)) ?_⟩
  simpa using q
/-- isinstance(e, (T, U)) -/
theorem de_isi2 (T U : String) {un : Str} {p3 p4 : Pos} {kk : Nat} (hT : known T = true) (hU : known U = true) (hg : Gl X "isinstance") (hm : X.mg "isinstance" = none) (hgt : Gl X tn) (hmt : X.mg tn = none) (hvt : bootBuiltins tn = some (.type T)) (hgu : Gl X un) (hmu : X.mg un = none) (hvu : bootBuiltins un = some (.type U))
    (ha : DE X c W ex te) (hv : bootBuiltins "isinstance" = some (.builtin "isinstance") := by first | exact PyProof.Rows.boot_isinstance | decide +kernel)
    (hn : tn ≠ "__name__" := by decide) (hdb : (tn == ("__debug__" : Str)) = false := by decide) (hn2 : un ≠ "__name__" := by decide) (hdb2 : (un == ("__debug__" : Str)) = false := by decide)
    (he : starEach (ex :: [Expr.Tuple [Expr.Name tn p2, Expr.Name un p3] kk p4]) X.env = (false, eval ex X.env) :: starEach [Expr.Tuple [Expr.Name tn p2, Expr.Name un p3] kk p4] X.env := by rfl)
    (he2 : starEach (Expr.Tuple [Expr.Name tn p2, Expr.Name un p3] kk p4 :: []) X.env = (false, eval (Expr.Tuple [Expr.Name tn p2, Expr.Name un p3] kk p4) X.env) :: starEach [] X.env := by rfl) (hpl : (backTo pos (starEach [Expr.Tuple [Expr.Name tn p2, Expr.Name un p3] kk p4] X.env)).any (·.1) = false := by rfl)
    (he3 : starEach (Expr.Name tn p2 :: [Expr.Name un p3]) X.env = (false, eval (Expr.Name tn p2) X.env) :: starEach [Expr.Name un p3] X.env := by rfl) (he4 : starEach (Expr.Name un p3 :: []) X.env = (false, eval (Expr.Name un p3) X.env) :: starEach [] X.env := by rfl) :
    DE X c W (.Call (.Name "isinstance" p) [ex, .Tuple [.Name tn p2, .Name un p3] kk p4] [] pos) (dUn (r31Isi [T, U]) te) := by
  refine ⟨PE.imp (pe_callB (r := rIsiT X.K) call_isiT hg hm hv (pa_cons ha.pe (pa_cons (pe_tup (pa_cons (pe_bltn (v := .ty T) hgt hmt hvt rfl hn hdb) (pa_cons (pe_bltn (v := .ty U) hgu hmu hvu rfl hn2 hdb2) pa_nil he4) he3)) pa_nil he2) he) (by decide) (by decide) he hpl) fun σ H Q h => ?_⟩
  obtain ⟨G, e, Qd, Xd, rel, h, hQ, hX⟩ := h
  refine ⟨G, e, _, Xd, rel, h, fun ρ1 e1 v1 G1 H1 st1 r1 h1 => ?_, hX⟩
  obtain ⟨d, sd, hi, q⟩ := h1
  refine ⟨(by decide : 2 ≤ 1000000) |> fun z => Nat.le_trans z mil, fun tp htp => ?_⟩
  have st2 := Step.ext st1.rel (same_upd (o := .tup [.ty T, .ty U]) htp) (Same.refl _) (st1.rel.gh.trans (same_upd htp)) fun a h => .inl h
  have dv := (r1.step st2).see st2.rel sd
  refine ⟨v1, tp, [.ty T, .ty U], .type (tyOf d), [.type T, .type U], _, rfl, upd_same, .cons (.ty T) (.cons (.ty U) .nil), dv.tyx st2.rel.gh hi, kitAny_all (K := X.K) hi (Ts := [T, U]) (by simp [hT, hU]), ?_⟩
  exact hQ (.d (.bl _)) e1 _ _ _ (st1.trans rel st2) (RepD.bl _) q
end

/-! ### slices -/
abbrev TDO := XD → List S → (Option Int → List S → Prop) → Prop
def liftO (K : PySem.W.Frag) (c : C0) (W : WX) (t : TDO) : TO := fun σ H Q => ∃ (G : Hp) (e : List S) (Qd : Option Int → List S → Prop) (Xd : XD), Rel K c G H σ e ∧ t Xd e Qd ∧
  (∀ (o : Option Int) (e' : List S) (G' H' : Hp), Step K c σ G H e G' H' e' → Qd o e' → Q o H') ∧ KE K c W Xd σ G H e
structure DO (X : Cx) (c : C0) (W : WX) (e : Option Expr) (t : TDO) : Prop where
  po : PO X e (liftO X.K c W t)
theorem PO.imp {X : Cx} {e : Option Expr} {t t' : TO} (h : PO X e t) (i : ∀ σ H Q, t' σ H Q → t σ H Q) : PO X e t' := ⟨fun pins s σ H Q I q => h.run pins s σ H Q I (i σ H Q q)⟩
def dNoPart : TDO := fun _ e Q => Q none e
def dPart (te : TDE) : TDO := fun Xd e Q => te Xd e fun ρ e1 => ∃ i, see e1 ρ = some (.int i) ∧ Q (some i) e1
def cutD (xs : List D) (lo hi : Option Int) : List D := (xs.drop (HT.sIx xs.length 0 lo)).take (HT.sIx xs.length xs.length hi - HT.sIx xs.length 0 lo)
def dSl (te : TDE) (tl th : TDO) : TDE := fun Xd e Q => te Xd e fun ρ e1 => tl Xd e1 fun lo e2 => th Xd e2 fun hi e3 => ∃ d, see e3 ρ = some d ∧
  ((∃ xs, d = .lst xs ∧ Q (.tl (cutD xs lo hi)) e3) ∨ ∃ xs, d = .tup xs ∧ Q (.d (.tup (cutD xs lo hi))) e3)
section
variable {X : Cx} {c : C0} {W : WX} {ex : Expr} {te : TDE} {lo hi : Option Expr} {tl th : TDO} {pos p2 : Pos}
theorem do_none : DO X c W none dNoPart := ⟨PO.imp po_none fun σ H Q ⟨G, e, Qd, Xd, rel, h, hQ, hX⟩ => hQ none e G H (Step.refl rel) h⟩
theorem do_some (h : DE X c W ex te) : DO X c W (some ex) (dPart te) := by
  refine ⟨PO.imp (po_some h.pe) fun σ H Q ⟨G, e, Qd, Xd, rel, h, hQ, hX⟩ => ?_⟩
  refine ⟨G, e, _, Xd, rel, h, fun ρ e1 v G1 H1 s1 r1 h1 => ?_, hX⟩
  obtain ⟨i, sd, h1⟩ := h1
  exact ⟨i, (r1.see s1.rel sd).int, hQ _ e1 G1 H1 s1 h1⟩
theorem RepDs.cut {K : PySem.W.Frag} {G : Hp} {xs : List D} {vs : List V} (h : RepDs K G xs vs) (lo hi : Option Int) : RepDs K G (cutD xs lo hi) (cutV vs lo hi) := by
  unfold cutD cutV
  rw [h.length]
  exact (h.drop _).take _
/-- script[..] -/
def dSlS (te : TDE) (tl th : TDO) : TDE := fun Xd e Q => te Xd e fun ρ e1 => tl Xd e1 fun lo e2 => th Xd e2 fun hi e3 => ∃ xs, see e3 ρ = some (scrD xs) ∧ Q (.tl (cutD xs lo hi)) e3
theorem de_sliceS (he : DE X c W ex te) (hl : DO X c W lo tl) (hu : DO X c W hi th) : DE X c W (.Subscript ex (.Slice lo hi none p2) pos) (dSlS te tl th) := by
  refine ⟨PE.imp (pe_slice sl_list he.pe hl.po hu.po) fun σ H Q ⟨G, e, Qd, Xd, rel, h, hQ, hX⟩ => ?_⟩
  refine ⟨G, e, _, Xd, rel, h, fun ρ e1 v G1 H1 s1 r1 h1 => ?_, hX⟩
  refine ⟨G1, e1, _, Xd, s1.rel, h1, fun l e2 G2 H2 s2 h2 => ?_, hX.step rel s1⟩
  have s12 := s1.trans rel s2
  refine ⟨G2, e2, _, Xd, s2.rel, h2, fun u e3 G3 H3 s3 h3 => ?_, hX.step rel s12⟩
  have s13 := s12.trans rel s3
  obtain ⟨xs, sd, q⟩ := h3
  have dv := ((r1.step s2).step s3).see s3.rel sd
  obtain ⟨a, vs, rfl, ha, ra⟩ := dv.scr s3.rel.gh
  refine ⟨a, vs, rfl, ha, fun p hp => ?_⟩
  obtain ⟨s4, r4⟩ := (Out.nl hp (ra.cut l u)).step s3.rel
  exact hQ _ e3 _ _ _ (s13.trans rel s4) (r4.back s13) q
theorem de_slice (he : DE X c W ex te) (hl : DO X c W lo tl) (hu : DO X c W hi th) : DE X c W (.Subscript ex (.Slice lo hi none p2) pos) (dSl te tl th) := by
  refine ⟨PE.imp (pe_slice (SlR.or sl_list sl_tupA) he.pe hl.po hu.po) fun σ H Q ⟨G, e, Qd, Xd, rel, h, hQ, hX⟩ => ?_⟩
  refine ⟨G, e, _, Xd, rel, h, fun ρ e1 v G1 H1 s1 r1 h1 => ?_, hX⟩
  refine ⟨G1, e1, _, Xd, s1.rel, h1, fun l e2 G2 H2 s2 h2 => ?_, hX.step rel s1⟩
  have s12 := s1.trans rel s2
  refine ⟨G2, e2, _, Xd, s2.rel, h2, fun u e3 G3 H3 s3 h3 => ?_, hX.step rel s12⟩
  have s13 := s12.trans rel s3
  obtain ⟨d, sd, h3⟩ := h3
  have dv := ((r1.step s2).step s3).see s3.rel sd
  rcases h3 with ⟨xs, rfl, q⟩ | ⟨xs, rfl, q⟩
  · obtain ⟨a, vs, rfl, ha, ra⟩ := dv.lst s3.rel.gh
    refine .inl ⟨a, vs, rfl, .inl (.inl ha), fun p hp => ?_⟩
    obtain ⟨s4, r4⟩ := (Out.nl hp (ra.cut l u)).step s3.rel
    exact hQ _ e3 _ _ _ (s13.trans rel s4) (r4.back s13) q
  · have hd := dv.data (fun _ z => by cases z) (fun _ _ z => by cases z)
    obtain ⟨a, vs, rfl, ha, ra⟩ := dv.tup s3.rel.gh
    refine .inr ⟨a, vs, rfl, ha, fun ⟨w1, w2⟩ => ?_, fun _ p hp => ?_⟩
    · have e : cutD xs l u = xs := by
        unfold cutD
        rw [ra.length, w1, w2]
        simp [← ra.length]
      rw [e] at q
      exact hQ (.d (.tup xs)) e3 _ _ _ s13 hd q
    · obtain ⟨s4, r4⟩ := (Out.nt hp (ra.cut l u)).step s3.rel
      exact hQ _ e3 _ _ _ (s13.trans rel s4) (r4.back s13) q
end

/-! ### methods of a list of one's own -/
section
variable {K : PySem.W.Frag} {c : C0} {σ : St} {G H : Hp} {e : List S} {a : Addr} {vs : List V} {i : Nat} {xs xs' : List D}
theorem Step.mutS {s0 s1 : S} {vs' : List V} (ho : s0.own = true) (ho' : s1.own = true) (hf : s0.fixd = s1.fixd) (hs1 : SlotR K G (upd H a (.lst vs')) s1 (some (.ref a))) (r : Rel K c G H σ e) (he : e[i]? = some s0) (hv : σ[i]? = some (some (.ref a))) : Step K c σ G H e G (upd H a (.lst vs')) (e.set i s1) := by
  have oa : OwnAt σ e a := ⟨i, _, he, ho, hv⟩
  have hi := (List.getElem?_eq_some_iff.mp he).1
  obtain ⟨ga, ca⟩ := r.own a oa
  have at_ : ∀ (j : Nat) (t : S), (e.set i s1)[j]? = some t → (j = i ∧ t = s1) ∨ (j ≠ i ∧ e[j]? = some t) := fun j t h => by
    by_cases z : i = j
    · subst z; rw [List.getElem?_set_self hi] at h; cases h; exact .inl ⟨rfl, rfl⟩
    · rw [List.getElem?_set_ne z] at h; exact .inr ⟨fun q => z q.symm, h⟩
  have ow : ∀ b, OwnAt σ (e.set i s1) b → OwnAt σ e b := fun b ⟨j, t, h1, h2, h3⟩ => by
    rcases at_ j t h1 with ⟨rfl, rfl⟩ | ⟨_, q⟩
    · exact ⟨j, _, he, ho, h3⟩
    · exact ⟨j, t, q, h2, h3⟩
  refine ⟨⟨by rw [List.length_set]; exact r.len, fun j t h => ?_, ?_, fun b o h n => ?_, r.gsub, r.gnew, fun b h => r.own b (ow b h), fun j k t u b h1 h2 h3 h4 h5 h6 => ?_, fun j b h => ?_, by rw [List.length_set]; exact r.ln⟩, Same.refl _, fun b o h n => ?_, fun b h => .inl h, ow, fun b h => ?_⟩
  · rcases at_ j t h with ⟨rfl, rfl⟩ | ⟨nj, q⟩
    · rw [hv]; exact hs1
    · refine (r.sl j t q).mono (Same.refl _) fun b o q1 q2 q3 => ?_
      have hne : b ≠ a := fun z => by
        subst z
        refine nj (r.inj j i t _ b q he q1 ho ?_ hv)
        cases w : σ[j]? with
        | none => rw [w] at q2; cases q2
        | some x => rw [w] at q2; cases q2; rfl
      rw [upd_ne hne]; exact q3
  · intro b o h
    have hne : b ≠ a := fun z => by subst z; rw [ga] at h; cases h
    rw [upd_ne hne]; exact r.gh b o h
  · have hne : b ≠ a := fun z => by
      subst z
      rcases ca with q | q
      · rw [q] at h; cases h
      · exact n q
    rw [upd_ne hne]; exact r.keep b o h n
  · have f : ∀ (j : Nat) (t : S), (e.set i s1)[j]? = some t → t.own = true → ∃ t', e[j]? = some t' ∧ t'.own = true := fun j t h o => by
      rcases at_ j t h with ⟨rfl, _⟩ | ⟨_, q⟩
      · exact ⟨_, he, ho⟩
      · exact ⟨t, q, o⟩
    obtain ⟨t', q1, q2⟩ := f j t h1 h3
    obtain ⟨u', p1, p2⟩ := f k u h2 h4
    exact r.inj j k t' u' b q1 p1 q2 p2 h5 h6
  · obtain ⟨h1, t, h2, h3⟩ := r.rfs j b h
    refine ⟨h1, ?_⟩
    by_cases z : i = j
    · subst z
      rw [he] at h2; cases h2
      exact ⟨s1, List.getElem?_set_self hi, by rw [← hf]; exact h3⟩
    · exact ⟨t, by rw [List.getElem?_set_ne z]; exact h2, h3⟩
  · have hne : b ≠ a := fun z => by subst z; exact n oa
    rw [upd_ne hne]; exact h
  · by_cases z : b = a
    · subst z; rw [upd_same]; simp
    · rw [upd_ne z]; exact h
theorem Step.mutl {vs' : List V} (r : Rel K c G H σ e) (he : e[i]? = some (.ol xs)) (hv : σ[i]? = some (some (.ref a))) (hr : RepDs K G xs' vs') : Step K c σ G H e G (upd H a (.lst vs')) (e.set i (.ol xs')) :=
  Step.mutS (s0 := .ol xs) (s1 := .ol xs') rfl rfl rfl ⟨a, vs', rfl, upd_same, hr⟩ r he hv
theorem Rel.ol (r : Rel K c G H σ e) (he : e[i]? = some (.ol xs)) : ∃ a vs, σ[i]? = some (some (.ref a)) ∧ H a = some (.lst vs) ∧ RepDs K G xs vs := by
  obtain ⟨a, vs, h1, h2, h3⟩ := r.sl i _ he
  refine ⟨a, vs, ?_, h2, h3⟩
  cases w : σ[i]? with
  | none => rw [w] at h1; cases h1
  | some x => rw [w] at h1; cases h1; rfl
end
section
variable {X : Cx} {c : C0} {W : WX} {ex : Expr} {te : TDE} {x : Str} {p apos cpos : Pos} {i : Nat}
def dApp (i : Nat) (te : TDE) : TDE := fun Xd e Q => (∃ ys, e[i]? = some (.ol ys)) ∧ te Xd e fun ρ e1 => ∃ d xs, see e1 ρ = some d ∧ (fz e1 ρ)[i]? = some (.ol xs) ∧ xs.length < 1000000 ∧ Q (.d .non) ((fz e1 ρ).set i (.ol (xs ++ [d])))
theorem de_append (i : Nat) (ha : DE X c W ex te) (hN : X.N[i]? = some x := by rfl) (hv : Vis X.env.scope x := by first | exact Or.inl rfl | exact Or.inr (Or.inl rfl) | exact Or.inr (Or.inr rfl)) (hd : (x == ("__debug__" : Str)) = false := by decide)
    (hcd : (x == ("__classdict__" : Str)) = false := by decide) (hbase : attributeBase (.Name x p) "append" X.env (eval (.Name x p) X.env) = eval (.Name x p) X.env := by rfl)
    (hfew : ((backTo cpos (starEach [ex] X.env)).all (fun x => !x.1) && (backToKw cpos (keywordEach [] X.env)).all (fun x => x.1.isSome) && decide ([ex].length + ([] : List Keyword).length + (if ([] : List Keyword).isEmpty then 0 else 1) < 30)) = true := by rfl)
    (hline : (apos.endLine == cpos.line) = true := by rfl) (hs : starEach (ex :: []) X.env = (false, eval ex X.env) :: starEach [] X.env := by rfl) (hplain : (backTo cpos (starEach [] X.env)).any (·.1) = false := by rfl) :
    DE X c W (.Call (.Attribute (.Name x p) "append" apos) [ex] [] cpos) (dApp i te) := by
  refine ⟨PE.imp (pe_bm PySem.F.plainAttrs_list PySem.F.slot_list_append PySem.F.type_list_append mt_append (pe_var hN hv hd hcd) (pa_cons ha.pe pa_nil hs) hbase hfew hline hs hplain) fun σ H Q ⟨G, e, Qd, Xd, rel, ⟨⟨ys, hys⟩, h⟩, hQ, hX⟩ => ?_⟩
  obtain ⟨a, vs, hσ, hH, _⟩ := rel.ol hys
  refine ⟨.ref a, hσ, .inl ⟨rfl, vs, .inl (.inl hH)⟩, G, e, _, Xd, rel, h, fun ρ e1 v G1 H1 s1 r1 h1 => ?_, hX⟩
  obtain ⟨d, xs, sd, hx, hl, h1⟩ := h1
  obtain ⟨G2, s2, rd, _⟩ := Step.asD rel s1 r1 sd
  obtain ⟨b, ws, hσ', hH', rw'⟩ := s2.rel.ol hx
  rw [hσ] at hσ'; cases hσ'
  have l1 := rw'.length
  refine ⟨a, ws, v, rfl, rfl, hH', Nat.lt_of_lt_of_le (by omega) mil, ?_⟩
  exact hQ (.d .non) _ .non _ _ (s2.trans rel (Step.mutl s2.rel hx hσ (rw'.append (.cons rd .nil)))) RepD.non h1
def dExt (i : Nat) (te : TDE) : TDE := fun Xd e Q => (∃ ys, e[i]? = some (.ol ys)) ∧ te Xd e fun ρ e1 => ∃ ds xs, see e1 ρ = some (.lst ds) ∧ (fz e1 ρ)[i]? = some (.ol xs) ∧ xs.length + ds.length ≤ 1000000 ∧ Q (.d .non) ((fz e1 ρ).set i (.ol (xs ++ ds)))
theorem de_extend (i : Nat) (ha : DE X c W ex te) (hN : X.N[i]? = some x := by rfl) (hv : Vis X.env.scope x := by first | exact Or.inl rfl | exact Or.inr (Or.inl rfl) | exact Or.inr (Or.inr rfl)) (hd : (x == ("__debug__" : Str)) = false := by decide)
    (hcd : (x == ("__classdict__" : Str)) = false := by decide) (hbase : attributeBase (.Name x p) "extend" X.env (eval (.Name x p) X.env) = eval (.Name x p) X.env := by rfl)
    (hfew : ((backTo cpos (starEach [ex] X.env)).all (fun x => !x.1) && (backToKw cpos (keywordEach [] X.env)).all (fun x => x.1.isSome) && decide ([ex].length + ([] : List Keyword).length + (if ([] : List Keyword).isEmpty then 0 else 1) < 30)) = true := by rfl)
    (hline : (apos.endLine == cpos.line) = true := by rfl) (hs : starEach (ex :: []) X.env = (false, eval ex X.env) :: starEach [] X.env := by rfl) (hplain : (backTo cpos (starEach [] X.env)).any (·.1) = false := by rfl) :
    DE X c W (.Call (.Attribute (.Name x p) "extend" apos) [ex] [] cpos) (dExt i te) := by
  refine ⟨PE.imp (pe_bm PySem.F.plainAttrs_list PySem.F.slot_list_extend PySem.F.type_list_extend mt_extend (pe_var hN hv hd hcd) (pa_cons ha.pe pa_nil hs) hbase hfew hline hs hplain) fun σ H Q ⟨G, e, Qd, Xd, rel, ⟨⟨ys, hys⟩, h⟩, hQ, hX⟩ => ?_⟩
  obtain ⟨a, vs, hσ, hH, _⟩ := rel.ol hys
  refine ⟨.ref a, hσ, .inl ⟨rfl, vs, .inl (.inl hH)⟩, G, e, _, Xd, rel, h, fun ρ e1 v G1 H1 s1 r1 h1 => ?_, hX⟩
  obtain ⟨ds, xs, sd, hx, hl, h1⟩ := h1
  obtain ⟨G2, s2, rd, _⟩ := Step.asD rel s1 r1 sd
  obtain ⟨b, ws, hσ', hH', rw'⟩ := s2.rel.ol hx
  rw [hσ] at hσ'; cases hσ'
  cases rd with
  | @lst b vs' _ k1 k2 =>
    have l1 := rw'.length
    have l2 := k2.length
    refine ⟨a, b, ws, vs', rfl, rfl, hH', s2.rel.gh _ _ k1, Nat.le_trans (by omega) mil, ?_⟩
    exact hQ (.d .non) _ .non _ _ (s2.trans rel (Step.mutl s2.rel hx hσ (rw'.append k2))) RepD.non h1
def dPop (i : Nat) : TDE := fun Xd e Q => ∃ xs d, e[i]? = some (.ol xs) ∧ xs.getLast? = some d ∧ Q (.d d) (e.set i (.ol xs.dropLast))
theorem RepDs.dropLast {K : PySem.W.Frag} {G : Hp} {ds : List D} {vs : List V} (h : RepDs K G ds vs) : RepDs K G ds.dropLast vs.dropLast := by
  rw [List.dropLast_eq_take, List.dropLast_eq_take, h.length]
  exact h.take _
theorem de_pop (i : Nat) (hN : X.N[i]? = some x := by rfl) (hv : Vis X.env.scope x := by first | exact Or.inl rfl | exact Or.inr (Or.inl rfl) | exact Or.inr (Or.inr rfl)) (hd : (x == ("__debug__" : Str)) = false := by decide)
    (hcd : (x == ("__classdict__" : Str)) = false := by decide) (hbase : attributeBase (.Name x p) "pop" X.env (eval (.Name x p) X.env) = eval (.Name x p) X.env := by rfl) (hline : (apos.endLine == cpos.line) = true := by rfl) :
    DE X c W (.Call (.Attribute (.Name x p) "pop" apos) [] [] cpos) (dPop i) := by
  refine ⟨PE.imp (pe_bm0 PySem.F.plainAttrs_list PySem.F.slot_list_pop PySem.F.type_list_pop mt_pop (pe_var hN hv hd hcd) hbase hline) fun σ H Q ⟨G, e, Qd, Xd, rel, ⟨xs, d, he, hl, h⟩, hQ, hX⟩ => ?_⟩
  obtain ⟨a, vs, hσ, hH, rv⟩ := rel.ol he
  have hl' : xs[xs.length - 1]? = some d := by rw [← hl, List.getLast?_eq_getElem?]
  obtain ⟨v, hv', rd⟩ := rv.get' hl'
  refine ⟨.ref a, hσ, .inl ⟨rfl, vs, .inl (.inl hH)⟩, a, vs, v, rfl, rfl, hH, by rw [← rv.length]; exact hv', ?_⟩
  exact hQ (.d d) _ v _ _ (Step.mutl rel he hσ rv.dropLast) rd h
end
end L3

/-! L3: what a def promises over data; calls; bodies -/
namespace L3
open PySem PySem.Spec PyProof.Rows L2

/-- a def's promise: the arguments (data, or things handed by reference), what is wanted of the value and of these things behind, of an exception -/
abbrev SpD := List S → (D → List S → Prop) → (XV → List S → Prop) → Prop
structure ArgRel (K : PySem.W.Frag) (G H : Hp) (vs : List V) (as : List S) : Prop where
  len : vs.length = as.length
  sl : ∀ (i : Nat) (s : S), as[i]? = some s → SlotR K G H s vs[i]?
  gh : Same G H
  own : ∀ (i : Nat) (s : S) (a : Addr), as[i]? = some s → s.own = true → vs[i]? = some (V.ref a) → G a = none
  inj : ∀ (i j : Nat) (s t : S) (a : Addr), as[i]? = some s → as[j]? = some t → s.own = true → t.own = true → vs[i]? = some (V.ref a) → vs[j]? = some (V.ref a) → i = j
  fx : ∀ (i : Nat) (s : S), as[i]? = some s → s.own = true → s.fixd = true
def ByRef (vs : List V) (as : List S) (a : Addr) : Prop := ∃ (i : Nat) (s : S), as[i]? = some s ∧ s.own = true ∧ vs[i]? = some (V.ref a)
structure CStep (K : PySem.W.Frag) (G H : Hp) (vs : List V) (as : List S) (G' H' : Hp) (as' : List S) : Prop where
  ar : ArgRel K G' H' vs as'
  sg : Same G G'
  fr : ∀ a o, H a = some o → ¬ ByRef vs as a → H' a = some o
  gn : ∀ a, G' a ≠ none → G a ≠ none ∨ H a = none
  th : ∀ a, H a ≠ none → H' a ≠ none
  fx : ∀ (i : Nat) (s : S), as[i]? = some s → s.fixd = true → ∃ s' : S, as'[i]? = some s' ∧ s'.fixd = true
  dt : ∀ (i : Nat) (s : S), as[i]? = some s → s.fixd = false → as'[i]? = some s
def spOf (K : PySem.W.Frag) (n : Nat) (sp : SpD) : Sp := fun vs H Q E => vs.length = n ∧ ∃ (G : Hp) (as : List S) (Qd : D → List S → Prop) (Xd : XV → List S → Prop), ArgRel K G H vs as ∧ sp as Qd Xd ∧
  (∀ (d : D) (as' : List S) (v : V) (G' H' : Hp), CStep K G H vs as G' H' as' → RepD K G' d v → Qd d as' → Q v H') ∧
  (∀ (x : XV) (as' : List S) (cl : Value) (dd : Option Addr) (G' H' : Hp), CStep K G H vs as G' H' as' → RepX K G' H' x cl dd → Xd x as' → E cl dd H')
theorem spOf_len {K : PySem.W.Frag} {n : Nat} {sp : SpD} {vs : List V} {H : Hp} {Q : VK} {E : XK} (h : spOf K n sp vs H Q E) : vs.length = n := h.1

/-! ### a def's body -/
/-- behind a body: the things by reference as they stand, the rest as it came -/
def merge : List S → List S → List S
  | [], _ => []
  | s :: r, t :: q => (if s.fixd then t else s) :: merge r q
  | s :: r, [] => s :: r
theorem merge_at : ∀ {as e : List S} {i : Nat} {s : S}, as[i]? = some s → as.length ≤ e.length → ∃ t, e[i]? = some t ∧ (merge as e)[i]? = some (if s.fixd then t else s)
  | [], _, _, _, h, _ => by simp at h
  | s :: r, [], _, _, _, hl => by simp at hl
  | s :: r, t :: q, 0, s', h, hl => by simp at h; subst h; exact ⟨t, rfl, rfl⟩
  | s :: r, t :: q, i + 1, s', h, hl => by
    obtain ⟨t', h1, h2⟩ := merge_at (as := r) (e := q) (i := i) (by simpa using h) (by simpa using hl)
    exact ⟨t', by simpa using h1, by simpa [merge] using h2⟩
theorem merge_len : ∀ {as e : List S}, as.length ≤ e.length → (merge as e).length = as.length
  | [], _, _ => rfl
  | s :: r, [], h => by simp at h
  | s :: r, t :: q, h => by simp only [merge, List.length_cons]; rw [merge_len (by simpa using h)]
def adOf (vs : List V) (as : List S) (i : Nat) : Option Addr := match as[i]?, vs[i]? with
  | some s, some (.ref a) => if s.fixd then some a else none
  | _, _ => none
theorem adOf_some {vs : List V} {as : List S} {i : Nat} {a : Addr} (h : adOf vs as i = some a) : ∃ s, as[i]? = some s ∧ s.fixd = true ∧ vs[i]? = some (.ref a) := by
  unfold adOf at h
  split at h
  · rename_i s b e1 e2
    split at h
    · rename_i hf
      cases h
      exact ⟨s, e1, hf, e2⟩
    · cases h
  · cases h
theorem adOf_of {vs : List V} {as : List S} {i : Nat} {a : Addr} {s : S} (h1 : as[i]? = some s) (h2 : s.fixd = true) (h3 : vs[i]? = some (.ref a)) : adOf vs as i = some a := by
  unfold adOf
  rw [h1, h3]
  simp [h2]
abbrev startE (n : Nat) (as : List S) : List S := as ++ List.replicate (n - as.length) .no
section
variable {K : PySem.W.Frag} {N : List Str} {G H G' H' : Hp} {vs : List V} {as e' : List S} {σ' : St}
theorem startE_at {n i : Nat} {s : S} (h : (startE n as)[i]? = some s) : as[i]? = some s ∨ (as.length ≤ i ∧ s = .no) := by
  by_cases z : i < as.length
  · rw [List.getElem?_append_left z] at h; exact .inl h
  · rw [List.getElem?_append_right (by omega), List.getElem?_replicate] at h
    split at h
    · cases h; exact .inr ⟨by omega, rfl⟩
    · cases h
theorem ArgRel.begin_ (r : ArgRel K G H vs as) (hN : vs.length ≤ N.length) : Rel K ⟨H, G, adOf vs as, N.length⟩ G H (L2.start N vs) (startE N.length as) := by
  have hl := r.len
  have σat : ∀ {i : Nat}, i < as.length → (L2.start N vs)[i]? = (vs[i]?).map some := fun {i} z => by
    unfold L2.start
    rw [List.getElem?_append_left (by rw [List.length_map]; omega), List.getElem?_map]
  have own : ∀ (i : Nat) (s : S) (a : Addr), (startE N.length as)[i]? = some s → s.own = true → (L2.start N vs)[i]? = some (some (.ref a)) → as[i]? = some s ∧ vs[i]? = some (.ref a) := fun i s a h1 h2 h3 => by
    rcases startE_at h1 with q | ⟨_, rfl⟩
    · refine ⟨q, ?_⟩
      rw [σat (List.getElem?_eq_some_iff.mp q).1] at h3
      cases w : vs[i]? with
      | none => rw [w] at h3; cases h3
      | some x => rw [w] at h3; cases h3; rfl
    · cases h2
  refine ⟨?_, fun i s h => ?_, r.gh, fun a o h _ => h, Same.refl _, fun a h => .inl h, fun a ⟨i, s, h1, h2, h3⟩ => ?_, fun i j s t a h1 h2 h3 h4 h5 h6 => ?_, fun i a h => ?_, by unfold startE; rw [List.length_append, List.length_replicate]; show _ = N.length; omega⟩
  · unfold L2.start startE
    rw [List.length_append, List.length_append, List.length_map, List.length_replicate, List.length_replicate, hl]
  · rcases startE_at h with q | ⟨_, rfl⟩
    · rw [σat (List.getElem?_eq_some_iff.mp q).1]
      have := r.sl i s q
      cases w : vs[i]? with
      | none => rw [w] at this; exact this
      | some x => rw [w] at this; exact this
    · trivial
  · obtain ⟨q1, q2⟩ := own i s a h1 h2 h3
    exact ⟨r.own i s a q1 h2 q2, .inr ⟨i, adOf_of q1 (r.fx i s q1 h2) q2⟩⟩
  · obtain ⟨q1, q2⟩ := own i s a h1 h3 h5
    obtain ⟨p1, p2⟩ := own j t a h2 h4 h6
    exact r.inj i j s t a q1 p1 h3 h4 q2 p2
  · obtain ⟨s, q1, q2, q3⟩ := adOf_some h
    have z := (List.getElem?_eq_some_iff.mp q1).1
    exact ⟨by rw [σat z, q3]; rfl, s, by unfold startE; rw [List.getElem?_append_left z]; exact q1, q2⟩
/-- behind the body -/
theorem ArgRel.fin (r : ArgRel K G H vs as) (hN : vs.length ≤ N.length) (r' : Rel K ⟨H, G, adOf vs as, N.length⟩ G' H' σ' e') : CStep K G H vs as G' H' (merge as e') := by
  have hl := r.len
  have he : e'.length = N.length := r'.ln
  have hle : as.length ≤ e'.length := by omega
  have hth : ∀ a, H a ≠ none → H' a ≠ none := fun a h => by
    by_cases z : C0.rf ⟨H, G, adOf vs as, N.length⟩ a
    · obtain ⟨i, hi⟩ := z
      obtain ⟨h1, s, h2, h3⟩ := r'.rfs i a hi
      obtain ⟨o', ho⟩ := OwnAt.there r' ⟨i, s, h2, S.own_of_fixd h3, h1⟩
      rw [ho]; simp
    · cases q : H a with
      | none => exact absurd q h
      | some o => rw [r'.keep a o q z]; simp
  have at_ : ∀ (i : Nat) (s : S), (merge as e')[i]? = some s → ∃ s0, as[i]? = some s0 ∧ ((s0.fixd = true ∧ e'[i]? = some s ∧ ∃ a, vs[i]? = some (.ref a) ∧ σ'[i]? = some (some (.ref a)) ∧ s.fixd = true) ∨ (s0.fixd = false ∧ s = s0)) := fun i s h => by
    have hi := (List.getElem?_eq_some_iff.mp h).1
    rw [merge_len hle] at hi
    obtain ⟨t, h1, h2⟩ := merge_at (List.getElem?_eq_getElem hi) hle
    rw [h] at h2
    cases hf : as[i].fixd with
    | false =>
      rw [hf] at h2
      cases h2
      exact ⟨as[i], List.getElem?_eq_getElem hi, .inr ⟨hf, rfl⟩⟩
    | true =>
      rw [hf] at h2
      cases h2
      have q := r.sl i as[i] (List.getElem?_eq_getElem hi)
      obtain ⟨a, ha⟩ : ∃ a, vs[i]? = some (.ref a) := by
        cases z : as[i] with
        | well n => rw [z] at q; obtain ⟨a, ha, _⟩ := q; exact ⟨a, ha⟩
        | wl n => rw [z] at q; obtain ⟨a, _, ha, _⟩ := q; exact ⟨a, ha⟩
        | no => rw [z] at hf; cases hf
        | d _ => rw [z] at hf; cases hf
        | ol _ => rw [z] at hf; cases hf
        | od _ _ => rw [z] at hf; cases hf
      obtain ⟨k1, t, k2, k3⟩ := r'.rfs i a (adOf_of (List.getElem?_eq_getElem hi) hf ha)
      rw [h1] at k2; cases k2
      exact ⟨as[i], List.getElem?_eq_getElem hi, .inl ⟨hf, h1, a, ha, k1, k3⟩⟩
  have ownat : ∀ (i : Nat) (s : S), (merge as e')[i]? = some s → s.own = true → e'[i]? = some s ∧ s.fixd = true ∧ ∃ a, vs[i]? = some (.ref a) ∧ σ'[i]? = some (some (.ref a)) := fun i s h o => by
    obtain ⟨s0, q, ⟨_, q1, a, q2, q3, q4⟩ | ⟨q1, rfl⟩⟩ := at_ i s h
    · exact ⟨q1, q4, a, q2, q3⟩
    · rw [r.fx i s q o] at q1; cases q1
  have sg : Same G G' := r'.gsub
  refine ⟨⟨by rw [merge_len hle]; exact hl, fun i s h => ?_, r'.gh, fun i s a h o ha => ?_, fun i j s t a h1 h2 h3 h4 h5 h6 => ?_, fun i s h o => (ownat i s h o).2.1⟩, sg, fun a o h n => ?_, fun a h => ?_, hth, fun i s h hf => ?_, fun i s h hf => ?_⟩
  · obtain ⟨s0, q, ⟨_, q1, a, q2, q3, q4⟩ | ⟨q1, rfl⟩⟩ := at_ i s h
    · have k := r'.sl i s q1
      rw [q3] at k
      rw [q2]
      exact k
    · exact (r.sl i s q).mono sg fun b o z _ _ => by rw [r.fx i s q z] at q1; cases q1
  · obtain ⟨k1, _, b, k2, k3⟩ := ownat i s h o
    rw [ha] at k2; cases k2
    exact (r'.own a ⟨i, s, k1, o, k3⟩).1
  · obtain ⟨k1, _, b, k2, k3⟩ := ownat i s h1 h3
    obtain ⟨l1, _, b', l2, l3⟩ := ownat j t h2 h4
    rw [h5] at k2; cases k2
    rw [h6] at l2; cases l2
    exact r'.inj i j s t a k1 l1 h3 h4 k3 l3
  · refine r'.keep a o h fun ⟨i, hi⟩ => ?_
    obtain ⟨s, q1, q2, q3⟩ := adOf_some hi
    exact n ⟨i, s, q1, S.own_of_fixd q2, q3⟩
  · exact r'.gnew a h
  · obtain ⟨t, h1, h2⟩ := merge_at h hle
    rw [hf] at h2
    have z : ∃ a, vs[i]? = some (.ref a) := by
      have q := r.sl i s h
      cases s with
      | well n => obtain ⟨a, ha, _⟩ := q; exact ⟨a, ha⟩
      | wl n => obtain ⟨a, _, ha, _⟩ := q; exact ⟨a, ha⟩
      | no => cases hf
      | d _ => cases hf
      | ol _ => cases hf
      | od _ _ => cases hf
    obtain ⟨a, ha⟩ := z
    obtain ⟨_, t', k2, k3⟩ := r'.rfs i a (adOf_of h hf ha)
    rw [h1] at k2; cases k2
    exact ⟨t, h2, k3⟩
  · obtain ⟨t, h1, h2⟩ := merge_at h hle
    rw [hf] at h2
    exact h2
end
section
variable {P : Program} {w : World} {K : PySem.W.Frag} {mg : Str → Option Value} {base : Heap}
abbrev WE0 (E : XK) : WX := fun cl dd _ H => E cl dd H
/-- THE RULE for a def: its body as a term of rules, and what this reading of it promises -/
theorem fn_ok {x qual : Str} {st : Stmt} {f : Addr} {fd : FuncData} {N ps : List Str} {k : Nat} {sp : SpD} {t : TDS} (F : Fun K x qual st f fd) (SC : FnScope N ps (defScope st))
    (hbody : ∀ (cdv : Value) (A : Around) (outer : List Env) (s : Shared) (H : Hp) (E : XK) (c : C0), Room k (A.deeper (envOfC qual (defScope st) s.heap.objs.size f cdv)) →
      Takes (cxOf (L2.CX P w) P w K mg base N qual (defScope st) f cdv A outer s H E) (WE0 E) → PassesOwn (model P w) (cxOf (L2.CX P w) P w K mg base N qual (defScope st) f cdv A outer s H E).A (cxOf (L2.CX P w) P w K mg base N qual (defScope st) f cdv A outer s H E).env (cxOf (L2.CX P w) P w K mg base N qual (defScope st) f cdv A outer s H E).xe →
      DSs (cxOf (L2.CX P w) P w K mg base N qual (defScope st) f cdv A outer s H E) c (WE0 E) (defBody st) t)
    (hsp : ∀ (as : List S) (Qd : D → List S → Prop) (Xd : XV → List S → Prop), as.length = ps.length → sp as Qd Xd → t (fun x e => Xd x (merge as e)) { nx := fun e => Qd .non (merge as e), rt := fun d e => Qd d (merge as e) } (startE N.length as)) :
    FnOk P w K mg base (L2.CX P w) (k + 1) f fd ps (spOf K ps.length sp) := by
  refine F.okX SC (fun vs H Q E h => h.1) (fun cdv A outer s H vs Q E hr h => ?_)
  obtain ⟨hlen, G, as, Qd, Xd, ar, hs, hQ, hE⟩ := h
  have tk : Takes (cxOf (L2.CX P w) P w K mg base N qual (defScope st) f cdv A outer s H E) (WE0 E) := takes_of rfl rfl rfl rfl
  refine ⟨_, (hbody cdv A outer s H E ⟨H, G, adOf vs as, N.length⟩ hr tk (passes_of rfl)).pss, ?_⟩
  have hpl : ps.length ≤ N.length := by have := congrArg List.length SC.pre; rw [List.length_take] at this; omega
  have hN : vs.length ≤ N.length := by omega
  have r0 := ar.begin_ (N := N) hN
  refine ⟨G, startE N.length as, _, _, r0, hsp as Qd Xd (by rw [← ar.len]; exact hlen) hs, ?_⟩
  exact ⟨fun σ' G' H' e' r' sg q => hQ .non _ .non G' H' (ar.fin hN r') .non q, fun d v σ' G' H' e' r' sg rd q => hQ d _ v G' H' (ar.fin hN r') rd q, fun _ _ _ _ _ _ z => z.elim, fun _ _ _ _ _ _ z => z.elim,
    fun x' e' cl dd σ' G' H' r' sg rx q => hE x' _ cl dd G' H' (ar.fin hN r') rx q⟩
end

/-! ### calls -/
/-- all data -/
theorem slots_rep {K : PySem.W.Frag} {G : Hp} {vs : List V} {ds : List D} (h : RepDs K G ds vs) : ∀ (i : Nat) (s : S), (ds.map S.d)[i]? = some s → s.own = false ∧ s.fixd = false ∧ ∀ {H : Hp}, SlotR K G H s vs[i]? := fun i s q => by
  rw [List.getElem?_map] at q
  cases w : ds[i]? with
  | none => rw [w] at q; cases q
  | some d =>
    rw [w] at q; cases q
    obtain ⟨v, hv, rd⟩ := h.get' w
    exact ⟨rfl, rfl, fun {H} => ⟨v, hv, rd⟩⟩
section
variable {X : Cx} {c : C0} {W : WX} {k : Nat} {f : Addr} {fd : FuncData} {ps : List Str} {sp : SpD} {x : Str} {p pos : Pos} {e : Expr} {es : List Expr} {t : TDA} {dds : List D} {dvs : List V} {dsv : List Value}
/-- f(data, ..); dds: the defaults -/
def dCall (n : Nat) (sp : SpD) (dds : List D) (t : TDA) : TDE := fun Xd e Q => t Xd e fun as e1 => ∃ ds, dats as = some ds ∧ (ds ++ dds).length = n ∧ sp ((ds ++ dds).map S.d) (fun d _ => Q (.d d) e1) (fun x _ => Xd x e1)
theorem call_data {K : PySem.W.Frag} {n : Nat} {σ : St} {G H : Hp} {e1 : List S} {ds : List D} {vs : List V} {Xd : XD} {Q : VK} {Qd : R → List S → Prop} (rel : Rel K c G H σ e1) (rd : RepDs K G ds vs) (hl : ds.length = n) (h : sp (ds.map S.d) (fun d _ => Qd (.d d) e1) (fun x _ => Xd x e1))
    (hQ : ∀ (ρ : R) (e' : List S) (v : V) (G' H' : Hp), Step K c σ G H e1 G' H' e' → RepR K H G' H' σ e' ρ v → Qd ρ e' → Q v H') (hX : KE K c W Xd σ G H e1) : spOf K n sp vs H Q (WE W σ) := by
  have nod : ∀ (i : Nat) (s : S), (ds.map S.d)[i]? = some s → s.own = true → False := fun i s q o => by
    rw [(slots_rep rd i s q).1] at o; cases o
  have st : ∀ {G' H' : Hp} {as' : List S}, CStep K G H vs (ds.map S.d) G' H' as' → Step K c σ G H e1 G' H' e1 := fun {G' H' as'} cs =>
    Step.ext rel (fun a o h => cs.fr a o h fun ⟨i, s, q, o, _⟩ => nod i s q o) cs.sg cs.ar.gh cs.gn
  refine ⟨by rw [← rd.length]; exact hl, G, ds.map S.d, _, _, ⟨by rw [List.length_map]; exact rd.length.symm, fun i s q => (slots_rep rd i s q).2.2, rel.gh, fun i s a q o => (nod i s q o).elim, fun i j s t a q _ o => (nod i s q o).elim, fun i s q o => (nod i s q o).elim⟩, h, ?_, ?_⟩
  · exact fun d as' v G' H' cs rv q => hQ (.d d) e1 v G' H' (st cs) rv q
  · exact fun x as' cl dd G' H' cs rx q => hX x e1 cl dd G' H' (st cs) rx q
theorem de_call (F : FnOk X.prog X.w X.K X.mg X.base (L2.CX X.prog X.w) k f fd ps (spOf X.K ps.length sp)) (hr : Room k X.A) (tk : Takes X W) (hg : Gl X x) (hm : X.mg x = some (.ref f)) (hk : PySem.W.keepIn X.K (.ref f) = true) (hb : Binds X.K fd ps dsv) (hd : Vals dvs dsv)
    (hdd : ∀ G, RepDs X.K G dds dvs) (ha : DA X c W (e :: es) t) (hdb : (x == ("__debug__" : Str)) = false := by decide) (he : starEach (e :: es) X.env = (false, eval e X.env) :: starEach es X.env := by rfl) (hpl : (backTo pos (starEach es X.env)).any (·.1) = false := by rfl) :
    DE X c W (.Call (.Name x p) (e :: es) [] pos) (dCall ps.length sp dds t) := by
  refine ⟨PE.imp (pe_callSD F hr hg hm hk hb hd (fun σ => passAt tk σ) ha.pa hdb he hpl) fun σ H Q ⟨G, e0, Qd, Xd, rel, h, hQ, hX⟩ => ?_⟩
  refine ⟨G, e0, _, Xd, rel, h, fun as e1 vs G1 H1 s1 r1 h1 => ?_, hX⟩
  obtain ⟨ds, hds, hl, h1⟩ := h1
  exact call_data s1.rel ((dats_rep r1 hds).append (hdd G1)) hl h1 (fun ρ e' v G' H' st rr q => hQ ρ e' v G' H' (s1.trans rel st) (rr.back s1) q) (hX.step rel s1)
/-- f(thing by reference, data, ..) -/
def dCallR (n : Nat) (sp : SpD) (t : TDA) : TDE := fun Xd e Q => t Xd e fun as e1 => ∃ i r ds s, as = .rf i :: r ∧ dats r = some ds ∧ ds.length + 1 = n ∧ e1[i]? = some s ∧ s.fixd = true ∧
  sp (s :: ds.map S.d) (fun d as' => ∃ s' r', as' = s' :: r' ∧ Q (.d d) (e1.set i s')) (fun x as' => ∃ s' r', as' = s' :: r' ∧ Xd x (e1.set i s'))
theorem Step.byref {K : PySem.W.Frag} {σ : St} {G H G' H' : Hp} {e1 : List S} {i : Nat} {s : S} {a : Addr} {ds : List D} {vs : List V} {as' : List S} (r : Rel K c G H σ e1) (rd : RepDs K G ds vs) (hs : e1[i]? = some s) (hf : s.fixd = true) (hv : σ[i]? = some (some (.ref a)))
    (cs : CStep K G H (.ref a :: vs) (s :: ds.map S.d) G' H' as') : ∃ s' r', as' = s' :: r' ∧ Step K c σ G H e1 G' H' (e1.set i s') := by
  obtain ⟨s', h0, hf'⟩ := cs.fx 0 s rfl hf
  obtain ⟨r', rfl⟩ : ∃ r', as' = s' :: r' := by
    cases as' with
    | nil => cases h0
    | cons q r' => simp at h0; subst h0; exact ⟨r', rfl⟩
  have oa : OwnAt σ e1 a := ⟨i, s, hs, S.own_of_fixd hf, hv⟩
  have hi := (List.getElem?_eq_some_iff.mp hs).1
  have at_ : ∀ (j : Nat) (t : S), (e1.set i s')[j]? = some t → (j = i ∧ t = s') ∨ (j ≠ i ∧ e1[j]? = some t) := fun j t h => by
    by_cases z : i = j
    · subst z; rw [List.getElem?_set_self hi] at h; cases h; exact .inl ⟨rfl, rfl⟩
    · rw [List.getElem?_set_ne z] at h; exact .inr ⟨fun q => z q.symm, h⟩
  have ow : ∀ b, OwnAt σ (e1.set i s') b → OwnAt σ e1 b := fun b ⟨j, t, h1, h2, h3⟩ => by
    rcases at_ j t h1 with ⟨rfl, rfl⟩ | ⟨_, q⟩
    · exact ⟨j, _, hs, S.own_of_fixd hf, h3⟩
    · exact ⟨j, t, q, h2, h3⟩
  have byr : ∀ b, ByRef (.ref a :: vs) (s :: ds.map S.d) b → b = a := fun b ⟨j, t, h1, h2, h3⟩ => by
    cases j with
    | zero => simp at h3; exact h3.symm
    | succ j =>
      have := (slots_rep rd j t (by simpa using h1)).1
      rw [h2] at this; cases this
  have fr : ∀ b o, H b = some o → b ≠ a → H' b = some o := fun b o h n => cs.fr b o h fun z => n (byr b z)
  have hsl : SlotR K G' H' s' (some (.ref a)) := by simpa using cs.ar.sl 0 s' rfl
  have hga : G' a = none := cs.ar.own 0 s' a rfl (S.own_of_fixd hf') rfl
  refine ⟨s', r', rfl, ⟨⟨by rw [List.length_set]; exact r.len, fun j t h => ?_, cs.ar.gh, fun b o h n => ?_, r.gsub.trans cs.sg, fun b h => ?_, fun b hb => ?_, fun j k t u b h1 h2 h3 h4 h5 h6 => ?_, fun j b h => ?_, by rw [List.length_set]; exact r.ln⟩, cs.sg, fun b o h n => ?_, fun b h => (cs.gn b h).imp_right .inl, ow, cs.th⟩⟩
  · rcases at_ j t h with ⟨rfl, rfl⟩ | ⟨nj, q⟩
    · rw [hv]; exact hsl
    · refine (r.sl j t q).mono cs.sg fun b o q1 q2 q3 => fr b o q3 fun z => ?_
      subst z
      refine nj (r.inj j i t s b q hs q1 (S.own_of_fixd hf) ?_ hv)
      cases w : σ[j]? with
      | none => rw [w] at q2; cases q2
      | some x => rw [w] at q2; cases q2; rfl
  · have hne : b ≠ a := fun z => by
      subst z
      rcases (r.own b oa).2 with q | q
      · rw [q] at h; cases h
      · exact n q
    exact fr b o (r.keep b o h n) hne
  · rcases cs.gn b h with q | q
    · exact r.gnew b q
    · exact .inr (r.fresh0 q)
  · refine ⟨?_, (r.own b (ow b hb)).2⟩
    by_cases z : b = a
    · subst z; exact hga
    · cases q : G' b with
      | none => rfl
      | some o =>
        rcases cs.gn b (by rw [q]; simp) with w | w
        · exact absurd (r.own b (ow b hb)).1 w
        · obtain ⟨o', ho'⟩ := OwnAt.there r (ow b hb)
          rw [w] at ho'; cases ho'
  · have g : ∀ (j : Nat) (t : S), (e1.set i s')[j]? = some t → t.own = true → ∃ t', e1[j]? = some t' ∧ t'.own = true := fun j t h o => by
      rcases at_ j t h with ⟨rfl, _⟩ | ⟨_, q⟩
      · exact ⟨_, hs, S.own_of_fixd hf⟩
      · exact ⟨t, q, o⟩
    obtain ⟨t', q1, q2⟩ := g j t h1 h3
    obtain ⟨u', p1, p2⟩ := g k u h2 h4
    exact r.inj j k t' u' b q1 p1 q2 p2 h5 h6
  · obtain ⟨h1, t, h2, h3⟩ := r.rfs j b h
    refine ⟨h1, ?_⟩
    by_cases z : i = j
    · subst z; exact ⟨s', List.getElem?_set_self hi, hf'⟩
    · exact ⟨t, by rw [List.getElem?_set_ne z]; exact h2, h3⟩
  · exact fr b o h fun z => by subst z; exact n oa
theorem de_callR (F : FnOk X.prog X.w X.K X.mg X.base (L2.CX X.prog X.w) k f fd ps (spOf X.K ps.length sp)) (hr : Room k X.A) (tk : Takes X W) (hg : Gl X x) (hm : X.mg x = some (.ref f)) (hk : PySem.W.keepIn X.K (.ref f) = true) (hb : Binds X.K fd ps [])
    (ha : DA X c W (e :: es) t) (hdb : (x == ("__debug__" : Str)) = false := by decide) (he : starEach (e :: es) X.env = (false, eval e X.env) :: starEach es X.env := by rfl) (hpl : (backTo pos (starEach es X.env)).any (·.1) = false := by rfl) :
    DE X c W (.Call (.Name x p) (e :: es) [] pos) (dCallR ps.length sp t) := by
  refine ⟨PE.imp (pe_callSD F hr hg hm hk hb .nil (fun σ => passAt tk σ) ha.pa hdb he hpl) fun σ H Q ⟨G, e0, Qd, Xd, rel, h, hQ, hX⟩ => ?_⟩
  refine ⟨G, e0, _, Xd, rel, h, fun as e1 vs G1 H1 s1 r1 h1 => ?_, hX⟩
  obtain ⟨i, r, ds, s, rfl, hds, hl, hs, hf, h1⟩ := h1
  cases r1 with
  | @cons _ v _ vr rv rr =>
    have hv : σ[i]? = some (some v) := rv
    have rd := dats_rep rr hds
    obtain ⟨a, rfl⟩ : ∃ a, v = .ref a := by
      have q := s1.rel.slot hs hv
      cases s with
      | well n => obtain ⟨a, ha, _⟩ := q; cases ha; exact ⟨a, rfl⟩
      | wl n => obtain ⟨a, _, ha, _⟩ := q; cases ha; exact ⟨a, rfl⟩
      | no => cases hf
      | d _ => cases hf
      | ol _ => cases hf
      | od _ _ => cases hf
    have ga := (s1.rel.own a ⟨i, s, hs, S.own_of_fixd hf, hv⟩).1
    have at_ : ∀ (j : Nat) (t : S), (s :: ds.map S.d)[j]? = some t → t.own = true → j = 0 ∧ t = s := fun j t q o => by
      cases j with
      | zero => simp at q; exact ⟨rfl, q.symm⟩
      | succ j => rw [(slots_rep rd j t (by simpa using q)).1] at o; cases o
    show spOf X.K ps.length sp (V.ref a :: vr ++ []) H1 Q (WE W σ)
    rw [List.append_nil]
    refine ⟨by rw [List.length_cons, ← rd.length]; exact hl, G1, s :: ds.map S.d, _, _, ⟨by simp [rd.length], fun j t q => ?_, s1.rel.gh, fun j t b q o hb => ?_, fun j l t u b q1 q2 o1 o2 _ _ => ?_, fun j t q o => ?_⟩, h1, ?_, ?_⟩
    · cases j with
      | zero =>
        have e0 : s = t := by simpa using q
        subst e0
        exact s1.rel.slot hs hv
      | succ j => exact (slots_rep rd j t (by simpa using q)).2.2
    · obtain ⟨rfl, rfl⟩ := at_ j t q o
      have e0 : V.ref a = V.ref b := by simpa using hb
      cases e0
      exact ga
    · obtain ⟨rfl, _⟩ := at_ j t q1 o1
      obtain ⟨rfl, _⟩ := at_ l u q2 o2
      rfl
    · obtain ⟨rfl, rfl⟩ := at_ j t q o
      exact hf
    · intro d as' v' G' H' cs rv' ⟨s', r', e2, q⟩
      obtain ⟨s2, r2, e3, st⟩ := Step.byref s1.rel rd hs hf hv cs
      rw [e3] at e2; cases e2
      exact hQ (.d d) _ v' G' H' (s1.trans rel st) rv' q
    · intro x' as' cl dd G' H' cs rx ⟨s', r', e2, q⟩
      obtain ⟨s2, r2, e3, st⟩ := Step.byref s1.rel rd hs hf hv cs
      rw [e3] at e2; cases e2
      exact hX x' _ cl dd G' H' (s1.trans rel st) rx q
end
end L3

/-! L3: more operators, chains, in, stars, names of the module, bundles -/
namespace L3
open PySem PySem.Spec PyProof.Rows L2

section
variable {K : PySem.W.Frag}
theorem Op3.or {r r' : R2} {p p' : R3} (h : Op3 K r p) (h' : Op3 K r' p') : Op3 K (fun x y H Q => r x y H Q ∨ r' x y H Q) (fun d e Q => p d e Q ∨ p' d e Q) := fun G H d1 d2 x y Qr Q sg h1 h2 q k => by
  rcases q with q | q
  · exact .inl (h G H d1 d2 x y Qr Q sg h1 h2 q k)
  · exact .inr (h' G H d1 d2 x y Qr Q sg h1 h2 q k)
/-! ### + -/
def r3Plus : R3 := fun d e Q => r3Add d e Q ∨ r3AddS d e Q ∨ r3AddL d e Q ∨ r3AddT d e Q
def r2Plus (K : PySem.W.Frag) : R2 := fun x y H Q => (rI0 (fun i j => .int (i + j)) x y H Q) ∨ (∃ i j, x = .str i ∧ y = .str j ∧ i.length + j.length ≤ sizeLine ∧ Q (.str (i ++ j)) H) ∨ rCat x y H Q ∨ rCatA K x y H Q
theorem o3_plus : Op3 K (r2Plus K) r3Plus := Op3.or o3_int0 (Op3.or o3_addS (Op3.or o3_addL o3_addT))
theorem op_plus {X : Cx} : OpR X (binaryOp .Add) (r2Plus X.K) := op_add.or (op_add_str.or (op_cat.or op_catA))
/-! ### * -/
theorem o3_mulL : Op3 K rRep r3MulL := by
  rintro G H d1 d2 x y Qr Q sg h1 h2 ⟨xs, i, rfl, rfl, b1, b2, hl, q⟩ k
  obtain ⟨a, vs, rfl, ha, ra⟩ := h1.lst sg
  have l1 := ra.length
  exact ⟨a, i, vs, rfl, h2.int, ha, b1, b2, Nat.le_trans (by rw [← l1]; exact hl) mil, fun p hp => k _ _ _ _ (.nl hp (ra.rep i.toNat)) q⟩
def r3Times : R3 := fun d e Q => r3Mul d e Q ∨ r3MulL d e Q
theorem o3_times : Op3 K (fun x y H Q => rI CMul (fun i j => .int (i * j)) x y H Q ∨ rRep x y H Q) r3Times := Op3.or o3_int o3_mulL
theorem op_times {X : Cx} : OpR X (binaryOp .Mult) (fun x y H Q => rI CMul (fun i j => .int (i * j)) x y H Q ∨ rRep x y H Q) := op_mul.or op_rep
/-! ### in -/
def inStr (i j : Str) : Bool := !(Builtin.Str.occurrences j i 0 j.length 1).isEmpty
def D.flat0 : D → Bool
  | .non => true
  | .bl _ => true
  | .int _ => true
  | .str _ => true
  | _ => false
def inD (d : D) (xs : List D) : Bool := xs.any fun y => D.eqv y d
def r3In : R3 := fun d e Q => (∃ i j, d = .str i ∧ e = .str j ∧ Q (.d (.bl (inStr i j)))) ∨ ∃ xs, (e = .lst xs ∨ e = .tup xs) ∧ d.flat0 = true ∧ xs.all D.flat0 = true ∧ Q (.d (.bl (inD d xs)))
def r3NotIn : R3 := fun d e Q => (∃ i j, d = .str i ∧ e = .str j ∧ Q (.d (.bl (!inStr i j)))) ∨ ∃ xs, (e = .lst xs ∨ e = .tup xs) ∧ d.flat0 = true ∧ xs.all D.flat0 = true ∧ Q (.d (.bl (!inD d xs)))
theorem flat0_v {G : Hp} {d : D} {v : V} (h : RepD K G d v) (f : d.flat0 = true) : flatV v = true := by
  cases h <;> first | rfl | (simp [D.flat0] at f)
theorem flats_v {G : Hp} : ∀ {xs : List D} {vs : List V}, RepDs K G xs vs → xs.all D.flat0 = true → vs.all flatV = true
  | _, _, .nil, _ => rfl
  | _, _, .cons h r, f => by
    rw [List.all_cons, Bool.and_eq_true] at f
    rw [List.all_cons, flat0_v h f.1, flats_v r f.2]; rfl
theorem eqv_v {G : Hp} {d e : D} {v u : V} (h : RepD K G d v) (k : RepD K G e u) (f : d.flat0 = true) (g : e.flat0 = true) : eqV v u = D.eqv d e := by
  cases h <;> cases k <;> first | rfl | (simp [D.flat0] at f; done) | (simp [D.flat0] at g; done) | simp [eqV, D.eqv]
theorem in_v {G : Hp} {d : D} {v : V} (h : RepD K G d v) (f : d.flat0 = true) : ∀ {xs : List D} {vs : List V}, RepDs K G xs vs → xs.all D.flat0 = true → inV v vs = inD d xs
  | _, _, .nil, _ => rfl
  | _, _, .cons k r, g => by
    rw [List.all_cons, Bool.and_eq_true] at g
    unfold inV inD
    rw [List.any_cons, List.any_cons, eqv_v k h g.1 f]
    congr 1
    exact in_v h f r g.2
theorem DV.flat0 {G H : Hp} {d : D} {v : V} (h : DV K G H d v) (f : d.flat0 = true) : RepD K G d v := by
  rcases h with h | ⟨_, _, _, rfl, _⟩ | ⟨_, _, _, _, rfl, _⟩
  · exact h
  · cases f
  · cases f
theorem in_seq {G H : Hp} {e : D} {y : V} {xs : List D} (sg : Same G H) (h : DV K G H e y) (he : e = .lst xs ∨ e = .tup xs) : ∃ p vs, y = .ref p ∧ (SqL K H p vs ∨ SqT K H p vs) ∧ RepDs K G xs vs := by
  rcases he with rfl | rfl
  · obtain ⟨a, vs, rfl, ha, ra⟩ := h.lst sg; exact ⟨a, vs, rfl, .inl (.inl (.inl ha)), ra⟩
  · obtain ⟨a, vs, rfl, ha, ra⟩ := h.tup sg; exact ⟨a, vs, rfl, .inr ha, ra⟩
theorem o3_in : Op3 K (fun x y H Q => (∃ i j, x = .str i ∧ y = .str j ∧ Q (.bl (!(Builtin.Str.occurrences j i 0 j.length 1).isEmpty)) H) ∨ rIn K false x y H Q) r3In := by
  rintro G H d1 d2 x y Qr Q sg h1 h2 (⟨i, j, rfl, rfl, q⟩ | ⟨xs, he, f, g, q⟩) k
  · exact .inl ⟨i, j, h1.str, h2.str, k _ _ _ _ (.d (.bl _)) q⟩
  · obtain ⟨p, vs, rfl, hp, rv⟩ := in_seq sg h2 he
    have hd := h1.flat0 f
    refine .inr ⟨p, vs, rfl, hp, flat0_v hd f, flats_v rv g, ?_⟩
    show Q (.bl (inV x vs)) H
    rw [in_v hd f rv g]
    exact k _ _ _ _ (.d (.bl _)) q
theorem o3_notIn : Op3 K (fun x y H Q => (∃ i j, x = .str i ∧ y = .str j ∧ Q (.bl (!(!(Builtin.Str.occurrences j i 0 j.length 1).isEmpty))) H) ∨ rIn K true x y H Q) r3NotIn := by
  rintro G H d1 d2 x y Qr Q sg h1 h2 (⟨i, j, rfl, rfl, q⟩ | ⟨xs, he, f, g, q⟩) k
  · exact .inl ⟨i, j, h1.str, h2.str, k _ _ _ _ (.d (.bl _)) q⟩
  · obtain ⟨p, vs, rfl, hp, rv⟩ := in_seq sg h2 he
    have hd := h1.flat0 f
    refine .inr ⟨p, vs, rfl, hp, flat0_v hd f, flats_v rv g, ?_⟩
    show Q (.bl (!inV x vs)) H
    rw [in_v hd f rv g]
    exact k _ _ _ _ (.d (.bl _)) q
theorem op_in {X : Cx} : OpR X (compareOp .In) (fun x y H Q => (∃ i j, x = .str i ∧ y = .str j ∧ Q (.bl (!(Builtin.Str.occurrences j i 0 j.length 1).isEmpty)) H) ∨ rIn X.K false x y H Q) := op_in_str.or op_in_seq
theorem op_notIn {X : Cx} : OpR X (compareOp .NotIn) (fun x y H Q => (∃ i j, x = .str i ∧ y = .str j ∧ Q (.bl (!(!(Builtin.Str.occurrences j i 0 j.length 1).isEmpty))) H) ∨ rIn X.K true x y H Q) := op_notIn_str.or op_notIn_seq
/-! ### is -/
def r3Is : R3 := fun d e Q => r3IsN d e Q ∨ r3IsB d e Q
def r3IsNot : R3 := fun d e Q => r3NotN d e Q ∨ r3NotB d e Q
theorem o3_is : Op3 K (fun x y H Q => (y = .non ∧ Q (.bl (decide (x = .non))) H) ∨ rIsB x y H Q) r3Is := Op3.or o3_isN o3_isB
theorem o3_isNot : Op3 K (fun x y H Q => (y = .non ∧ Q (.bl (!decide (x = .non))) H) ∨ rNotB x y H Q) r3IsNot := Op3.or o3_notN o3_notB
theorem op_is {X : Cx} : OpR X (compareOp .Is) (fun x y H Q => (y = .non ∧ Q (.bl (decide (x = .non))) H) ∨ rIsB x y H Q) := op_isN.or op_isBl
theorem op_isNot {X : Cx} : OpR X (compareOp .IsNot) (fun x y H Q => (y = .non ∧ Q (.bl (!decide (x = .non))) H) ∨ rNotB x y H Q) := op_notN.or op_notBl
end

/-! ### a op b op c, -a -/
section
variable {X : Cx} {c : C0} {W : WX} {a b e : Expr} {ta tb tc : TDE} {pos : Pos} {r r' : R2} {r3 r3' : R3}
def dChain (r3 r3' : R3) (ta tb tc : TDE) : TDE := fun Xd e Q => ta Xd e fun ρ1 e1 => tb Xd e1 fun ρ2 e2 => ∃ d1 d2, see e2 ρ1 = some d1 ∧ see e2 ρ2 = some d2 ∧ r3 d1 d2 fun ρ => ∃ k, ρ = .d (.bl k) ∧
  if k = true then tc Xd e2 fun ρ3 e3 => ∃ d2 d3, see e3 ρ2 = some d2 ∧ see e3 ρ3 = some d3 ∧ r3' d2 d3 fun ρ' => Q ρ' e3 else Q (.d (.bl false)) e2
theorem lift_chain {K : PySem.W.Frag} {σ : St} {H : Hp} {Q : VK} (h3 : Op3 K r r3) (h3' : Op3 K r' r3') (h : liftE K c W (dChain r3 r3' ta tb tc) σ H Q) : tChain r r' (liftE K c W ta) (liftE K c W tb) (liftE K c W tc) σ H Q := by
  obtain ⟨G, e, Qd, Xd, rel, h, hQ, hX⟩ := h
  refine ⟨G, e, _, Xd, rel, h, fun ρ1 e1 v1 G1 H1 st1 r1 h1 => ?_, hX⟩
  refine ⟨G1, e1, _, Xd, st1.rel, h1, fun ρ2 e2 v2 G2 H2 st2 r2 h2 => ?_, hX.step rel st1⟩
  obtain ⟨d1, d2, s1, s2, h2⟩ := h2
  have st := st1.trans rel st2
  refine h3 G2 H2 d1 d2 v1 v2 _ _ st.rel.gh ((r1.step st2).see st.rel s1) (r2.see st.rel s2) h2 fun ρ v G' H' o ⟨k, ek, q⟩ => ?_
  subst ek
  cases o with
  | d rb =>
    cases rb
    refine ⟨k, rfl, ?_⟩
    cases k with
    | false =>
      rw [if_neg Bool.false_ne_true] at q ⊢
      exact hQ (.d (.bl false)) e2 _ G2 H2 st (RepD.bl false) q
    | true =>
      rw [if_pos rfl] at q ⊢
      refine ⟨G2, e2, _, Xd, st.rel, q, fun ρ3 e3 v3 G3 H3 st3 r3 h3 => ?_, hX.step rel st⟩
      obtain ⟨f1, f2, t1, t2, h4⟩ := h3
      have stt := st.trans rel st3
      refine h3' G3 H3 f1 f2 v2 v3 _ Q stt.rel.gh ((r2.step st3).see stt.rel t1) (r3.see stt.rel t2) h4 fun ρ' v' G' H' o' q' => ?_
      obtain ⟨st4, r4⟩ := o'.step stt.rel
      exact hQ ρ' e3 v' G' H' (stt.trans rel st4) (r4.back stt) q'
theorem de_chain {op op' : CmpOp} {cx : Expr} (ho : OpR X (compareOp op) r) (h3 : Op3 X.K r r3) (ho' : OpR X (compareOp op') r') (h3' : Op3 X.K r' r3') (ha : DE X c W a ta) (hb : DE X c W b tb) (hc : DE X c W cx tc) (hm : lastMarks [op, op'] [b, cx] = false := by with_unfolding_all rfl) :
    DE X c W (.Compare a [op, op'] [b, cx] pos) (dChain r3 r3' ta tb tc) := ⟨PE.imp (pe_chain ho ho' ha.pe hb.pe hc.pe hm) fun σ H Q h => lift_chain h3 h3' h⟩
theorem dt_chain {op op' : CmpOp} {cx : Expr} (ho : OpR X (compareOp op) r) (h3 : Op3 X.K r r3) (ho' : OpR X (compareOp op') r') (h3' : Op3 X.K r' r3') (ha : DE X c W a ta) (hb : DE X c W b tb) (hc : DE X c W cx tc) (hm : lastMarks [op, op'] [b, cx] = false := by with_unfolding_all rfl) :
    DT X c W (.Compare a [op, op'] [b, cx] pos) (dB (dChain r3 r3' ta tb tc)) := by
  refine ⟨PT.imp (pt_chain ho ho' ha.pe hb.pe hc.pe hm) fun σ H Q ⟨G, e, Qd, Xd, rel, h, hQ, hX⟩ => ?_⟩
  refine lift_chain h3 h3' ⟨G, e, _, Xd, rel, h, fun ρ1 e1 v1 G1 H1 st1 r1 h1 => ?_, hX⟩
  obtain ⟨b, s1, h1⟩ := h1
  exact ⟨b, (r1.see st1.rel s1).bl, hQ b e1 G1 H1 st1 h1⟩
def r31Neg : R31 := fun d Q => ∃ i, d = .int i ∧ Q (.d (.int (-i)))
theorem de_neg (ha : DE X c W a ta) : DE X c W (.UnaryOp .USub a pos) (dUn r31Neg ta) := by
  refine ⟨PE.imp (pe_un un_neg ha.pe) fun σ H Q h => ?_⟩
  refine lift_un (r := fun x H Q => rU (fun i => V.int (-i)) x H Q) (fun G H d x Qr Q sg hd ⟨i, e, q⟩ k => ?_) h
  subst e
  exact ⟨i, hd.int, k _ _ _ _ (.d (.int _)) q⟩
end

/-! ### a star in a display -/
section
variable {X : Cx} {c : C0} {W : WX} {ex : Expr} {es : List Expr} {te : TDE} {t : TDA} {pos : Pos}
def dStar (te : TDE) (t : TDA) : TDA := fun Xd e Q => te Xd e fun ρ e1 => ∃ xs, (see e1 ρ = some (.lst xs) ∨ see e1 ρ = some (.tup xs)) ∧ t Xd (fz e1 ρ) fun as e2 => Q (xs.map AR.d ++ as) e2
theorem reps_app {K : PySem.W.Frag} {G : Hp} {σ : St} {as : List AR} {ys : List V} (h : RepAs K G σ as ys) : ∀ {xs : List D} {vs : List V}, RepDs K G xs vs → RepAs K G σ (xs.map AR.d ++ as) (vs ++ ys)
  | _, _, .nil => h
  | _, _, .cons k r => .cons k (reps_app h r)
theorem da_star (ha : DE X c W ex te) (hr : DA X c W es t) (hs : starEach (.Starred ex pos :: es) X.env = (true, eval ex X.env) :: starEach es X.env := by rfl) : DA X c W (.Starred ex pos :: es) (dStar te t) := by
  refine ⟨PA.imp (StX.pa_star ha.pe hr.pa hs) fun σ H Q ⟨G, e, Qd, Xd, rel, h, hQ, hX⟩ => ?_⟩
  refine ⟨G, e, _, Xd, rel, h, fun ρ1 e1 v1 G1 H1 st1 r1 h1 => ?_, hX⟩
  obtain ⟨xs, sd, h1⟩ := h1
  rcases sd with sd | sd
  · obtain ⟨G2, s2, rd, _⟩ := Step.asD rel st1 r1 sd
    cases rd with
    | @lst a vs _ k1 k2 =>
      refine ⟨a, vs, rfl, .inr (.inl (.inl (s2.rel.gh _ _ k1))), G2, _, _, Xd, s2.rel, h1, fun as e3 ys G3 H3 s3 r3 h3 => ?_, hX.step rel s2⟩
      exact hQ _ e3 _ G3 H3 (s2.trans rel s3) (reps_app r3 (RepDs.mono s3.sg k2)) h3
  · obtain ⟨G2, s2, rd, _⟩ := Step.asD rel st1 r1 sd
    cases rd with
    | @tup a vs _ k1 k2 =>
      refine ⟨a, vs, rfl, .inl (Same.seqT s2.rel.gh k1), G2, _, _, Xd, s2.rel, h1, fun as e3 ys G3 H3 s3 r3 h3 => ?_, hX.step rel s2⟩
      exact hQ _ e3 _ G3 H3 (s2.trans rel s3) (reps_app r3 (RepDs.mono s3.sg k2)) h3
end

/-! ### names of the module -/
/-- a module's constant -/
structure Glo (K : PySem.W.Frag) (mg : Str → Option Value) (x : Str) (d : D) : Prop where
  ex : ∃ u v, mg x = some u ∧ RelV v u ∧ ∀ G, RepD K G d v
theorem dgl {X : Cx} {c : C0} {W : WX} {x : Str} {d : D} {pos : Pos} (h : Glo X.K X.mg x d) (hg : Gl X x := by rfl) (hd : (x == ("__debug__" : Str)) = false := by decide) : DE X c W (.Name x pos) (dC d) := by
  obtain ⟨u, v, h1, h2, h3⟩ := h.ex
  exact de_glob hg h1 h2 h3 hd
/-- a def of the module, called by places -/
structure Cal (P : Program) (w : World) (K : PySem.W.Frag) (mg : Str → Option Value) (base : Heap) (k : Nat) (x : Str) (n : Nat) (sp : SpD) (dds : List D) : Prop where
  ex : ∃ (f : Addr) (fd : FuncData) (ps : List Str) (dvs : List V) (dsv : List Value), ps.length = n ∧ FnOk P w K mg base (L2.CX P w) k f fd ps (spOf K n sp) ∧ mg x = some (.ref f) ∧ PySem.W.keepIn K (.ref f) = true ∧ Binds K fd ps dsv ∧ Vals dvs dsv ∧ ∀ G, RepDs K G dds dvs
section
variable {X : Cx} {c : C0} {W : WX} {k j n : Nat} {sp : SpD} {x : Str} {p pos : Pos} {e : Expr} {es : List Expr} {t : TDA} {dds : List D}
theorem de_c (C : Cal X.prog X.w X.K X.mg X.base k x n sp dds) (hr : Room j X.A) (hk : k ≤ j) (tk : Takes X W) (ha : DA X c W (e :: es) t) (hg : Gl X x := by rfl) (hdb : (x == ("__debug__" : Str)) = false := by decide) (he : starEach (e :: es) X.env = (false, eval e X.env) :: starEach es X.env := by rfl)
    (hpl : (backTo pos (starEach es X.env)).any (·.1) = false := by rfl) : DE X c W (.Call (.Name x p) (e :: es) [] pos) (dCall n sp dds t) := by
  obtain ⟨f, fd, ps, dvs, dsv, rfl, F, hm, hkp, hb, hd, hdd⟩ := C.ex
  exact de_call F (hr.mono hk) tk hg hm hkp hb hd hdd ha hdb he hpl
theorem de_cr (C : Cal X.prog X.w X.K X.mg X.base k x n sp []) (hr : Room j X.A) (hk : k ≤ j) (tk : Takes X W) (ha : DA X c W (e :: es) t) (hg : Gl X x := by rfl) (hdb : (x == ("__debug__" : Str)) = false := by decide) (he : starEach (e :: es) X.env = (false, eval e X.env) :: starEach es X.env := by rfl)
    (hpl : (backTo pos (starEach es X.env)).any (·.1) = false := by rfl) : DE X c W (.Call (.Name x p) (e :: es) [] pos) (dCallR n sp t) := by
  obtain ⟨f, fd, ps, dvs, dsv, rfl, F, hm, hkp, hb, hd, hdd⟩ := C.ex
  have e0 : dvs = [] := by
    have := (hdd fun _ => none).length
    simpa using this.symm
  subst e0
  cases hd
  exact de_callR F (hr.mono hk) tk hg hm hkp hb ha hdb he hpl
end
theorem room200 {k : Nat} {A : Around} (r : Room k A) : A.units + 200 < cLine := by have := r.un; omega
end L3

/-! L3: tuple * int, any small count -/
namespace L3
open PySem PySem.Spec PyProof.Rows L2
theorem tmul_same (l : Addr) (items : Array Value) (n : Nat) (dd : Option Addr) (sl : Array (Option Value)) (x : Int) (u : Tok) (c0 : (decide (x < -(2 ^ 63)) || decide (x ≥ 2 ^ 63)) = false) (c1 : (items.isEmpty || x == 1) = true) :
    Meets (Builtin.«tuple.__mul__» ⟨[.ref l, .int x u], []⟩) (fun _ R s => s.heap.get? l = some { cls := .type "tuple", dict := dd, data := .seq items n, slots := sl } ∧ R (.ok (.ret (Value.ref l))) s) :=
  .of_wp fun prog w A R s h => by
    obtain ⟨hp, g, d, tk, os⟩ := s
    obtain ⟨hl, h⟩ := h
    have f1 := AutoSeq1.idx_int
    wp_walk using wpAny_loadPart' hl
    repeat (first
      | (refine wpAny_ite_false (decide_eq_false (by rw [c0]; exact Bool.false_ne_true)) ?_; wp_walk using wpAny_loadPart' hl)
      | (refine wpAny_ite_true (decide_eq_true (by rw [c1])) ?_; wp_walk using wpAny_loadPart' hl))
    exact ⟨_, rfl, h⟩
theorem tmul_none (l : Addr) (items : Array Value) (n : Nat) (dd : Option Addr) (sl : Array (Option Value)) (x : Int) (u : Tok) (c0 : (decide (x < -(2 ^ 63)) || decide (x ≥ 2 ^ 63)) = false) (c1 : (items.isEmpty || x == 1) = false) (c2 : (decide (x ≤ 0) || items.isEmpty) = true) :
    Meets (Builtin.«tuple.__mul__» ⟨[.ref l, .int x u], []⟩) (fun _ R s => s.heap.get? l = some { cls := .type "tuple", dict := dd, data := .seq items n, slots := sl } ∧ R (.ok (.ret (Value.ref s.heap.objs.size))) { s with heap := s.heap.push { cls := Value.type "tuple", data := Data.seq #[] }, toks := s.toks }) :=
  .of_wp fun prog w A R s h => by
    obtain ⟨hp, g, d, tk, os⟩ := s
    obtain ⟨hl, h⟩ := h
    have f1 := AutoSeq1.idx_int
    wp_walk using wpAny_loadPart' hl
    repeat (first
      | (refine wpAny_ite_false (decide_eq_false (by rw [c0]; exact Bool.false_ne_true)) ?_; wp_walk using wpAny_loadPart' hl)
      | (refine wpAny_ite_false (decide_eq_false (by rw [c1]; exact Bool.false_ne_true)) ?_; wp_walk using wpAny_loadPart' hl)
      | (refine wpAny_ite_true (decide_eq_true (by rw [c2])) ?_; wp_walk using wpAny_loadPart' hl))
    exact ⟨_, rfl, h⟩
def rRepG (K : PySem.W.Frag) : R2 := fun x y H Q => ∃ l k xs, x = .ref l ∧ y = .int k ∧ SqT K H l xs ∧ 0 ≤ k ∧ k ≤ 1000 ∧ xs.length ≤ 1000 ∧ ((xs = [] ∨ k = 1) → Q (.ref l) H) ∧ (¬(xs = [] ∨ k = 1) → ∀ p, H p = none → Q (.ref p) (upd H p (.tup (List.replicate k.toNat xs).flatten)))
section
variable {X : Cx}
theorem op_repG : OpR X (binaryOp .Mult) (rRepG X.K) := by
  intro pins s σ H x y v u Q I rx ry h
  obtain ⟨l, k, xs, rfl, rfl, hT, h1, h2, hz, qs, q⟩ := h
  by_cases z2 : xs ≠ [] ∧ 2 ≤ k
  · exact op_repT pins s σ H (.ref l) (.int k) v u Q I rx ry ⟨l, k, xs, rfl, rfl, hT, z2.1, z2.2, h2, hz, q fun e => by rcases e with e | e; exact z2.1 e; omega⟩
  cases rx
  obtain ⟨t, rfl⟩ := ry
  obtain ⟨its, r, ⟨⟨cls, dd, data, sl⟩, ho, hc, n, hd⟩, hs⟩ := I.tuple hT
  simp only at hc hd
  subst hc hd
  have hle : its.length = xs.length := r.length.symm
  have c0 : (decide (k < -(2 ^ 63)) || decide (k ≥ 2 ^ 63)) = false := by
    rw [decide_eq_false (by omega), decide_eq_false (by omega)] <;> rfl
  have hie : its.toArray.isEmpty = true ↔ xs = [] := by
    rw [Array.isEmpty_iff_size_eq_zero, List.size_toArray, hle]
    exact ⟨fun e => List.eq_nil_of_length_eq_zero e, fun e => by rw [e]; rfl⟩
  by_cases zs : xs = [] ∨ k = 1
  · have c1 : (its.toArray.isEmpty || k == 1) = true := by
      rcases zs with e | e
      · rw [hie.mpr e]; rfl
      · rw [e]; simp
    refine wpAny_binaryOp_repeat_ref (T := "tuple") (U := "int") (by decide) ⟨_, ho, rfl⟩ (fun s' => typeIs_int s' k t) noFill_tuple_mul F.fills_int_mul F.slot_int_rmul repeat_tuple F.slot_int_index.lookup
      (call_meets F.slot_int_rmul (typeIs_int s k t) F.entry_int_rmul (F.args_int_rmul_2 _ _) (int_rmul_tuple k t l its.toArray n dd sl)
        ⟨ho, rfl, ⟨_, ho, rfl⟩, call_meets F.slot_tuple_mul ⟨_, ho, rfl⟩ F.entry_tuple_mul (F.args_tuple_mul_2 _ _) (tmul_same l its.toArray n dd sl k t c0 c1) ⟨ho, ?_⟩⟩)
    exact ⟨.ref l, _, I, rfl, qs zs⟩
  · have e0 : k = 0 := by
      rcases Decidable.not_and_iff_or_not.mp z2 with e | e
      · exact absurd (.inl (Decidable.not_not.mp e)) zs
      · have : ¬ k = 1 := fun e => zs (.inr e)
        omega
    subst e0
    have hi : its.toArray.isEmpty = false := by
      cases w : its.toArray.isEmpty with
      | false => rfl
      | true => exact absurd (.inl (hie.mp w)) zs
    have c1 : (its.toArray.isEmpty || (0 : Int) == 1) = false := by rw [hi]; rfl
    have c2 : (decide ((0 : Int) ≤ 0) || its.toArray.isEmpty) = true := rfl
    refine wpAny_binaryOp_repeat_ref (T := "tuple") (U := "int") (by decide) ⟨_, ho, rfl⟩ (fun s' => typeIs_int s' 0 t) noFill_tuple_mul F.fills_int_mul F.slot_int_rmul repeat_tuple F.slot_int_index.lookup
      (call_meets F.slot_int_rmul (typeIs_int s 0 t) F.entry_int_rmul (F.args_int_rmul_2 _ _) (int_rmul_tuple 0 t l its.toArray n dd sl)
        ⟨ho, rfl, ⟨_, ho, rfl⟩, call_meets F.slot_tuple_mul ⟨_, ho, rfl⟩ F.entry_tuple_mul (F.args_tuple_mul_2 _ _) (tmul_none l its.toArray n dd sl 0 t c0 c1 c2) ⟨ho, ?_⟩⟩)
    refine ⟨.ref s.heap.objs.size, _, I.laid (t' := s.toks) (o := .tup []) (fun b ob q => Heap.get?_push_of_some _ q) (Nat.le_refl _) ?_, rfl, q zs _ (I.hok.fresh (Nat.le_refl _))⟩
    exact ⟨Nat.zero_le _, _, .nil, IsTup.new _ _⟩
end
def r3RepT : R3 := fun d e Q => ∃ xs i, d = .tup xs ∧ e = .int i ∧ 0 ≤ i ∧ i ≤ 1000 ∧ xs.length ≤ 1000 ∧ Q (.d (.tup (List.replicate i.toNat xs).flatten))
theorem o3_repT {K : PySem.W.Frag} : Op3 K (rRepG K) r3RepT := by
  rintro G H d1 d2 x y Qr Q sg h1 h2 ⟨xs, i, rfl, rfl, b1, b2, hl, q⟩ k
  have hT : RepD K G (.tup xs) x := by
    rcases h1 with h | ⟨_, _, _, h, _⟩ | ⟨_, _, _, _, h, _⟩
    · exact h
    · cases h
    · cases h
  obtain ⟨a, vs, rfl, ha, ra⟩ := h1.tup sg
  have l1 := ra.length
  refine ⟨a, i, vs, rfl, h2.int, ha, b1, b2, by omega, fun z => ?_, fun z p hp => k _ _ _ _ (.nt hp (ra.rep i.toNat)) q⟩
  have e0 : (List.replicate i.toNat xs).flatten = xs := by
    rcases z with e | e
    · rw [e] at l1
      have : xs = [] := List.eq_nil_of_length_eq_zero l1
      subst this
      simp
    · subst e; simp
  refine k _ _ _ _ (.d hT) ?_
  rw [← e0]
  exact q
/-! ### * of every kind -/
def r3Star : R3 := fun d e Q => r3Mul d e Q ∨ r3MulL d e Q ∨ r3RepT d e Q
def r2Star (K : PySem.W.Frag) : R2 := fun x y H Q => rI CMul (fun i j => .int (i * j)) x y H Q ∨ rRep x y H Q ∨ rRepG K x y H Q
theorem o3_star {K : PySem.W.Frag} : Op3 K (r2Star K) r3Star := Op3.or o3_int (Op3.or o3_mulL o3_repT)
theorem op_star {X : Cx} : OpR X (binaryOp .Mult) (r2Star X.K) := op_mul.or (op_rep.or op_repG)
end L3

/-! L3: the well's list read and written, powers, abs, repr of a bool, {}, written dicts, calls by keyword -/
namespace L3
open PySem PySem.Spec PyProof.Rows L2

/-! ### the well as a list -/
section
variable {X : Cx} {c : C0} {W : WX} {ex : Expr} {te : TDE} {x : Str} {p pos ipos cpos : Pos} {i : Nat} {k : Int} {kk : Nat}
theorem Rel.wl {K : PySem.W.Frag} {σ : St} {G H : Hp} {e : List S} {xs : List D} (r : Rel K c G H σ e) (he : e[i]? = some (.wl xs)) : ∃ a vs, σ[i]? = some (some (.ref a)) ∧ H a = some (.lst vs) ∧ RepDs K G xs vs := by
  obtain ⟨a, vs, h1, h2, h3⟩ := r.sl i _ he
  refine ⟨a, vs, ?_, h2, h3⟩
  cases w : σ[i]? with
  | none => rw [w] at h1; cases h1
  | some x => rw [w] at h1; cases h1; rfl
def dWix (i : Nat) (k : Int) : TDE := fun Xd e Q => ∃ xs d, e[i]? = some (.wl xs) ∧ atI xs k = some d ∧ Q (.d d) e
theorem de_wix (i : Nat) (hN : X.N[i]? = some x := by rfl) (hv : Vis X.env.scope x := by first | exact Or.inl rfl | exact Or.inr (Or.inl rfl) | exact Or.inr (Or.inr rfl)) (hd : (x == ("__debug__" : Str)) = false := by decide)
    (hcd : (x == ("__classdict__" : Str)) = false := by decide) (hs : PlainIx (.Constant (.int k) kk cpos) := by exact fun _ _ => rfl) : DE X c W (.Subscript (.Name x p) (.Constant (.int k) kk cpos) pos) (dWix i k) := by
  refine ⟨PE.imp (pe_ix ix_seq (pe_var hN hv hd hcd) pe_int hs) fun σ H Q ⟨G, e, Qd, Xd, rel, ⟨xs, d, he, ha, h⟩, hQ, hX⟩ => ?_⟩
  obtain ⟨a, vs, h1, h2, h3⟩ := rel.wl he
  obtain ⟨v, hv, rv⟩ := h3.atI ha
  exact ⟨.ref a, h1, .inl ⟨a, vs, k, v, rfl, rfl, .inl (.inl h2), hv, hQ (.d d) e v G H (Step.refl rel) rv h⟩⟩
def dWset (i : Nat) (k : Int) (te : TDE) : TDS := fun Xd De e => te Xd e fun ρ e1 => ∃ d xs j, see e1 ρ = some d ∧ (fz e1 ρ)[i]? = some (.wl xs) ∧ ixN xs.length k = some j ∧ De.nx ((fz e1 ρ).set i (.wl (xs.set j d)))
theorem ds_wset (i : Nat) (ha : DE X c W ex te) (hN : X.N[i]? = some x := by rfl) (hv : Vis X.env.scope x := by first | exact Or.inl rfl | exact Or.inr (Or.inl rfl) | exact Or.inr (Or.inr rfl)) (hd : (x == ("__debug__" : Str)) = false := by decide)
    (hcd : (x == ("__classdict__" : Str)) = false := by decide)
    (has : ∀ v, assign (.Subscript (.Name x p) (.Constant (.int k) kk cpos) ipos) X.env v = (do
      let ov ← holding [v] (eval (.Name x p) X.env)
      let iv ← holding [v, ov] (eval (.Constant (.int k) kk cpos) X.env)
      standAt ipos
      holding [v, ov, iv] (setItem ov iv v)
      release [v, ov, iv] []) := by intro _; rfl)
    (hs : swapsWithSole [.Subscript (.Name x p) (.Constant (.int k) kk cpos) ipos] ex pos.line X.env = pure false := by rfl) (hw : swappedStores [.Subscript (.Name x p) (.Constant (.int k) kk cpos) ipos] ex X.env = pure none := by rfl)
    (h1 : (assignEach [.Subscript (.Name x p) (.Constant (.int k) kk cpos) ipos] X.env).map (·.2) = [assign (.Subscript (.Name x p) (.Constant (.int k) kk cpos) ipos) X.env] := by rfl) :
    DS X c W (.Assign [.Subscript (.Name x p) (.Constant (.int k) kk cpos) ipos] ex pos) (dWset i k te) := by
  refine ⟨PS.imp (ps_asg ha.pe (pg_sub (pe_var hN hv hd hcd) pe_int set_list has) hs hw h1) fun Dx σ H ⟨G, e, De, Xd, rel, h, f⟩ => ?_⟩
  refine ⟨G, e, _, Xd, rel, h, fun ρ e1 v G1 H1 s1 r1 h1 => ?_, f.ke rel⟩
  obtain ⟨d, xs, j, sd, he, hj, h1⟩ := h1
  obtain ⟨G2, s2, rd, _⟩ := Step.asD rel s1 r1 sd
  obtain ⟨a, vs, k1, k2, k3⟩ := s2.rel.wl he
  have st := Step.mutS (s0 := .wl xs) (s1 := .wl (xs.set j d)) rfl rfl rfl ⟨a, vs.set j v, rfl, upd_same, RepDs.set rd j k3⟩ s2.rel he k1
  exact ⟨.ref a, k1, a, vs, k, j, rfl, rfl, k2, by rw [← k3.length]; exact hj, f.nx σ G2 _ _ st.rel s2.sg h1⟩
end

/-! ### powers, abs, repr -/
section
variable {X : Cx} {K : PySem.W.Frag}
def CPowG (i j : Int) : Prop := 0 ≤ j ∧ j ≤ 1000 ∧ i.natAbs < 2 ^ 1000
theorem op_powG : OpR X (binaryOp .Pow) (rI CPowG fun i j => .int (i ^ j.toNat)) := opI fun i j _ _ _ _ _ hc q => by
  have hb : Builtin.Int.intBits i ≤ 1000 := intBits_le hc.2.2
  have h1 : (Builtin.Int.intBits i : Int) * j ≤ 1000 * j := Int.mul_le_mul_of_nonneg_right (by omega) hc.1
  have h2 := hc.2.1
  exact pow_int hc.1 (by omega) q
abbrev r3PowG : R3 := r3I CPowG fun i j => .int (i ^ j.toNat)
def r31Abs : R31 := fun d Q => ∃ i, d = .int i ∧ Q (.d (.int (if i < 0 then -i else i)))
theorem u3_abs : Un3 K (fun x H Q => ∃ i, [x] = [V.int i] ∧ Q (.int (if i < 0 then -i else i)) H) r31Abs := by
  rintro G H d x Qr Q sg h ⟨i, rfl, q⟩ k
  exact ⟨i, by rw [h.int], k _ _ _ _ (.d (.int _)) q⟩
def txtB (b : Bool) : Str := if b then "True" else "False"
theorem call_reprB : CallR X (.builtin "repr") (fun xs H Q => ∃ b, xs = [.bl b] ∧ Q (.str (txtB b)) H) := by
  intro pins s σ H xs us Q I r h
  obtain ⟨b, rfl, q⟩ := h
  obtain ⟨u, rfl, r1⟩ := vals1 r
  cases r1
  exact PySem.P.repr_of_bool ⟨.str (txtB b), H, I.tok _, ⟨_, rfl⟩, q⟩
def r31ReprB : R31 := fun d Q => ∃ b, d = .bl b ∧ Q (.d (.str (txtB b)))
theorem u3_reprB : Un3 K (fun x H Q => ∃ b, [x] = [V.bl b] ∧ Q (.str (txtB b)) H) r31ReprB := by
  rintro G H d x Qr Q sg h ⟨b, rfl, q⟩ k
  exact ⟨b, by rw [h.bl], k _ _ _ _ (.d (.str _)) q⟩
end

/-! ### {} -/
section
variable {X : Cx} {c : C0} {W : WX} {pos : Pos}
def dDict0 : TDE := fun _ e Q => Q (.td [] []) e
theorem de_dict0 : DE X c W (.Dict [] [] pos) dDict0 := by
  refine ⟨PE.imp pe_dnewK fun σ H Q ⟨G, e, Qd, Xd, rel, h, hQ, hX⟩ p hp => ?_⟩
  obtain ⟨s4, r4⟩ := (Out.nd (K := X.K) (ks := []) (vs := []) (xs := []) hp rfl .nil).step rel
  exact hQ _ e _ _ _ s4 r4 h
end

/-! ### dicts of the written part, text keys -/
inductive EntsD (K : PySem.W.Frag) : List DictEntry → List (Str × D) → Prop
  | nil : EntsD K [] []
  | cons {en : DictEntry} {x : Str} {d : D} {es : List DictEntry} {r : List (Str × D)} : (∃ t, en.key = .str x t) → (∃ v, RelV v en.val ∧ ∀ G, RepD K G d v) → EntsD K es r → EntsD K (en :: es) ((x, d) :: r)
structure KD (K : PySem.W.Frag) (w : World) (p : Addr) (kvs : List (Str × D)) : Prop where
  ex : ∃ es n, K.lookup p = some ⟨.type "dict", none, .dict es n, #[]⟩ ∧ PySem.W.KeysLit w.params es.toList ∧ EntsD K es.toList kvs
  low : (p == sysModules) = false
  few : kvs.length ≤ 1000
def getK (kvs : List (Str × D)) (z : Str) : Option D := (kvs.find? fun q => q.1 == z).map (·.2)
theorem ents_find {K : PySem.W.Frag} {z : Str} : ∀ {es : List DictEntry} {kvs : List (Str × D)}, EntsD K es kvs →
    match getK kvs z with
    | some d => ∃ u v, (es.find? fun e => e.key.isStr z).map (·.val) = some u ∧ RelV v u ∧ ∀ G, RepD K G d v
    | none => (es.find? fun e => e.key.isStr z) = none ∧ es.any (·.refKey) = false
  | _, _, .nil => ⟨rfl, rfl⟩
  | en :: es, (x, d) :: r, .cons ⟨t, hk⟩ ⟨v, hv, hd⟩ q => by
    have ih := ents_find (z := z) q
    have e0 : en.key.isStr z = (x == z) := by
      rw [hk]
      rfl
    unfold getK at ih ⊢
    rw [List.find?_cons, List.find?_cons, e0]
    cases w : x == z with
    | true => exact ⟨en.val, v, rfl, hv, hd⟩
    | false =>
      dsimp only
      cases m : (r.find? fun q => q.1 == z).map (·.2) with
      | some d' => rw [m] at ih; exact ih
      | none =>
        rw [m] at ih
        refine ⟨ih.1, ?_⟩
        rw [List.any_cons, ih.2, Bool.or_false]
        unfold DictEntry.refKey
        rw [hk]
theorem KD.find {K : PySem.W.Frag} {w : World} {p : Addr} {kvs : List (Str × D)} (h : KD K w p kvs) (z : Str) : match getK kvs z with
    | some d => ∃ u v, PySem.W.nsIn K p z = some (some u) ∧ RelV v u ∧ ∀ G, RepD K G d v
    | none => PySem.W.nsIn K p z = some none := by
  obtain ⟨es, n, hl, _, he⟩ := h.ex
  have q := ents_find (z := z) he
  unfold PySem.W.nsIn
  rw [hl]
  dsimp only
  cases m : getK kvs z with
  | some d =>
    rw [m] at q
    obtain ⟨u, v, q1, q2⟩ := q
    refine ⟨u, v, ?_, q2⟩
    cases f : es.toList.find? fun e => e.key.isStr z with
    | none => rw [f] at q1; cases q1
    | some e => rw [f] at q1; cases q1; rfl
  | none =>
    rw [m] at q
    rw [q.1, q.2]
    rfl
def rInK (K : PySem.W.Frag) (w : World) : R2 := fun x y H Q => ∃ p z kvs, y = .ref p ∧ x = .str z ∧ KD K w p kvs ∧ Q (.bl (getK kvs z).isSome) H
def rNotInK (K : PySem.W.Frag) (w : World) : R2 := fun x y H Q => ∃ p z kvs, y = .ref p ∧ x = .str z ∧ KD K w p kvs ∧ Q (.bl (!(getK kvs z).isSome)) H
def rIxK (K : PySem.W.Frag) (w : World) : R2 := fun x y H Q => ∃ p z kvs d, x = .ref p ∧ y = .str z ∧ KD K w p kvs ∧ getK kvs z = some d ∧ ∀ v, (∀ G, RepD K G d v) → Q v H
section
variable {X : Cx}
theorem KD.is_some {p : Addr} {z : Str} {kvs : List (Str × D)} (h : KD X.K X.w p kvs) : ∃ r, PySem.W.nsIn X.K p z = some r ∧ r.isSome = (getK kvs z).isSome := by
  have q := h.find z
  cases m : getK kvs z with
  | some d => rw [m] at q; obtain ⟨u, v, q1, _⟩ := q; exact ⟨_, q1, rfl⟩
  | none => rw [m] at q; exact ⟨_, q, rfl⟩
theorem op_inK : OpR X (compareOp .In) (rInK X.K X.w) := by
  intro pins s σ H x y v u Q I rx ry ⟨p, z, kvs, e1, e2, kd, q⟩
  subst e1 e2
  obtain ⟨t, rfl⟩ := rx
  cases ry
  obtain ⟨r, hr, hs⟩ := kd.is_some (z := z)
  obtain ⟨es, n, hl, hk, _⟩ := kd.ex
  refine wpAny_in_of (strKind_is X.prog X.w z t) kd.low (PySem.W.mapOf_K (prog := X.prog) (w := X.w) I.kIn hl hk) ?_
  rw [PySem.W.find_K hl hr, hs]
  exact ⟨.bl _, H, I.tok _, rfl, q⟩
theorem op_notInK : OpR X (compareOp .NotIn) (rNotInK X.K X.w) := by
  intro pins s σ H x y v u Q I rx ry ⟨p, z, kvs, e1, e2, kd, q⟩
  subst e1 e2
  obtain ⟨t, rfl⟩ := rx
  cases ry
  obtain ⟨r, hr, hs⟩ := kd.is_some (z := z)
  obtain ⟨es, n, hl, hk, _⟩ := kd.ex
  refine wpAny_notIn_of (strKind_is X.prog X.w z t) kd.low (PySem.W.mapOf_K (prog := X.prog) (w := X.w) I.kIn hl hk) ?_
  rw [PySem.W.find_K hl hr, hs]
  exact ⟨.bl _, H, I.tok _, rfl, q⟩
theorem ix_K : IxR X (rIxK X.K X.w) := by
  intro value slice pins s σ H x y v u Q I rx ry ⟨p, z, kvs, d, e1, e2, kd, hg, q⟩ hs
  subst e1 e2
  obtain ⟨t, rfl⟩ := ry
  cases rx
  have f := kd.find z
  rw [hg] at f
  obtain ⟨u, v, f1, f2, f3⟩ := f
  obtain ⟨es, n, hl, hk, _⟩ := kd.ex
  have hm := PySem.W.mapOf_K (prog := X.prog) (w := X.w) I.kIn hl hk
  exact tail_any hm.typeIs slot_dict_getitem.lookup (wpAny_getItem_of (strKind_is X.prog X.w z t) hm (PySem.W.find_K hl f1) ⟨v, H, I.tok _, f2, q v f3⟩) hs
end
structure GloK (K : PySem.W.Frag) (w : World) (mg : Str → Option Value) (x : Str) (kvs : List (Str × D)) : Prop where
  ex : ∃ p, mg x = some (.ref p) ∧ KD K w p kvs
section
variable {X : Cx} {c : C0} {W : WX} {a b : Expr} {ta : TDE} {x : Str} {p pos : Pos} {kvs : List (Str × D)}
def dInK (kvs : List (Str × D)) (ta : TDE) : TDE := fun Xd e Q => ta Xd e fun ρ e1 => ∃ z, see e1 ρ = some (.str z) ∧ Q (.d (.bl (getK kvs z).isSome)) e1
def dNotInK (kvs : List (Str × D)) (ta : TDE) : TDE := fun Xd e Q => ta Xd e fun ρ e1 => ∃ z, see e1 ρ = some (.str z) ∧ Q (.d (.bl (!(getK kvs z).isSome))) e1
theorem lift_inK {g : Option D → Bool} {r : R2} {pp : Addr} {σ : St} {H : Hp} {Q : VK} (hr : ∀ z H Q, Q (.bl (g (getK kvs z))) H → r (.str z) (.ref pp) H Q)
    (h : liftE X.K c W (fun Xd e Q => ta Xd e fun ρ e1 => ∃ z, see e1 ρ = some (.str z) ∧ Q (.d (.bl (g (getK kvs z)))) e1) σ H Q) : tOp r (liftE X.K c W ta) (tC (.ref pp)) σ H Q := by
  obtain ⟨G, e, Qd, Xd, rel, h, hQ, hX⟩ := h
  refine ⟨G, e, _, Xd, rel, h, fun ρ1 e1 v1 G1 H1 st1 r1 h1 => ?_, hX⟩
  obtain ⟨z, sd, h1⟩ := h1
  have := (r1.see st1.rel sd).str
  subst this
  exact hr z H1 Q (hQ (.d (.bl _)) e1 _ G1 H1 st1 (RepD.bl _) h1)
theorem de_inK (g : GloK X.K X.w X.mg x kvs) (ha : DE X c W a ta) (hg : Gl X x := by rfl) (hd : (x == ("__debug__" : Str)) = false := by decide) (hm : behindInMarks .In (.Name x p) = false := by first | exact nomark _ | rfl) : DE X c W (.Compare a [.In] [.Name x p] pos) (dInK kvs ta) := by
  obtain ⟨pp, h1, kd⟩ := g.ex
  exact ⟨PE.imp (pe_cmpR op_inK ha.pe (pe_glob hg h1 (show RelV (.ref pp) (.ref pp) from rfl) hd) hm) fun σ H Q h => lift_inK (g := Option.isSome) (fun z H Q q => ⟨pp, z, kvs, rfl, rfl, kd, q⟩) h⟩
theorem de_notInK (g : GloK X.K X.w X.mg x kvs) (ha : DE X c W a ta) (hg : Gl X x := by rfl) (hd : (x == ("__debug__" : Str)) = false := by decide) (hm : behindInMarks .NotIn (.Name x p) = false := by first | exact nomark _ | rfl) : DE X c W (.Compare a [.NotIn] [.Name x p] pos) (dNotInK kvs ta) := by
  obtain ⟨pp, h1, kd⟩ := g.ex
  exact ⟨PE.imp (pe_cmpR op_notInK ha.pe (pe_glob hg h1 (show RelV (.ref pp) (.ref pp) from rfl) hd) hm) fun σ H Q h => lift_inK (g := fun o => !o.isSome) (fun z H Q q => ⟨pp, z, kvs, rfl, rfl, kd, q⟩) h⟩
theorem lift_inKT {g : Option D → Bool} {r : R2} {pp : Addr} {σ : St} {H : Hp} {Q : Bool → Hp → Prop} (hr : ∀ z H Q, Q (.bl (g (getK kvs z))) H → r (.str z) (.ref pp) H Q)
    (h : liftT X.K c W (dB fun Xd e Q => ta Xd e fun ρ e1 => ∃ z, see e1 ρ = some (.str z) ∧ Q (.d (.bl (g (getK kvs z)))) e1) σ H Q) : tTest (tOp r (liftE X.K c W ta) (tC (.ref pp))) σ H Q := by
  obtain ⟨G, e, Qd, Xd, rel, h, hQ, hX⟩ := h
  refine ⟨G, e, _, Xd, rel, h, fun ρ1 e1 v1 G1 H1 st1 r1 h1 => ?_, hX⟩
  obtain ⟨z, sd, b, eb, h1⟩ := h1
  have := (r1.see st1.rel sd).str
  subst this
  have e2 : g (getK kvs z) = b := by simpa [see] using eb
  refine hr z H1 _ ⟨b, by rw [e2], hQ b e1 G1 H1 st1 h1⟩
theorem dt_inK (g : GloK X.K X.w X.mg x kvs) (ha : DE X c W a ta) (hg : Gl X x := by rfl) (hd : (x == ("__debug__" : Str)) = false := by decide) (hm : behindInMarks .In (.Name x p) = false := by first | exact nomark _ | rfl) : DT X c W (.Compare a [.In] [.Name x p] pos) (dB (dInK kvs ta)) := by
  obtain ⟨pp, h1, kd⟩ := g.ex
  exact ⟨PT.imp (pt_cmpR op_inK ha.pe (pe_glob hg h1 (show RelV (.ref pp) (.ref pp) from rfl) hd) hm) fun σ H Q h => lift_inKT (g := Option.isSome) (fun z H Q q => ⟨pp, z, kvs, rfl, rfl, kd, q⟩) h⟩
theorem dt_notInK (g : GloK X.K X.w X.mg x kvs) (ha : DE X c W a ta) (hg : Gl X x := by rfl) (hd : (x == ("__debug__" : Str)) = false := by decide) (hm : behindInMarks .NotIn (.Name x p) = false := by first | exact nomark _ | rfl) : DT X c W (.Compare a [.NotIn] [.Name x p] pos) (dB (dNotInK kvs ta)) := by
  obtain ⟨pp, h1, kd⟩ := g.ex
  exact ⟨PT.imp (pt_cmpR op_notInK ha.pe (pe_glob hg h1 (show RelV (.ref pp) (.ref pp) from rfl) hd) hm) fun σ H Q h => lift_inKT (g := fun o => !o.isSome) (fun z H Q q => ⟨pp, z, kvs, rfl, rfl, kd, q⟩) h⟩
def dIxK (kvs : List (Str × D)) (ta : TDE) : TDE := fun Xd e Q => ta Xd e fun ρ e1 => ∃ z d, see e1 ρ = some (.str z) ∧ getK kvs z = some d ∧ Q (.d d) e1
theorem de_ixK (g : GloK X.K X.w X.mg x kvs) (ha : DE X c W a ta) (hg : Gl X x := by rfl) (hd : (x == ("__debug__" : Str)) = false := by decide) (hs : PlainIx a := by exact fun _ _ => rfl) : DE X c W (.Subscript (.Name x p) a pos) (dIxK kvs ta) := by
  obtain ⟨pp, h1, kd⟩ := g.ex
  refine ⟨PE.imp (pe_ix ix_K (pe_glob hg h1 (show RelV (.ref pp) (.ref pp) from rfl) hd) ha.pe hs) fun σ H Q ⟨G, e, Qd, Xd, rel, h, hQ, hX⟩ => ?_⟩
  refine ⟨G, e, _, Xd, rel, h, fun ρ1 e1 v1 G1 H1 st1 r1 h1 => ?_, hX⟩
  obtain ⟨z, d, sd, hk, h1⟩ := h1
  have := (r1.see st1.rel sd).str
  subst this
  exact ⟨pp, z, kvs, d, rfl, rfl, kd, hk, fun v rv => hQ (.d d) e1 _ G1 H1 st1 (rv G1) h1⟩
end

/-! ### *d in a display, d a written dict: its keys -/
section
variable {X : Cx}
theorem ents_keys {K : PySem.W.Frag} : ∀ {es : List DictEntry} {kvs : List (Str × D)} {us : List Value}, EntsD K es kvs → us.length = es.length → (∀ (i : Nat) (u : Value), us[i]? = some u → ∃ en : DictEntry, es[i]? = some en ∧ u = en.key) → Vals (kvs.map fun q => V.str q.1) us
  | [], _, [], .nil, _, _ => .nil
  | en :: es, _, u :: us, .cons ⟨t, hk⟩ _ q, hl, h => by
    obtain ⟨e', h1, h2⟩ := h 0 u rfl
    cases h1
    refine .cons (show RelV (.str _) u from ⟨t, by rw [h2, hk]⟩) (ents_keys q (by simpa using hl) fun i u' hu => ?_)
    exact h (i + 1) u' (by simpa using hu)
theorem reps_strs {K : PySem.W.Frag} {G : Hp} : ∀ kvs : List (Str × D), RepDs K G (kvs.map fun q => D.str q.1) (kvs.map fun q => V.str q.1)
  | [] => .nil
  | _ :: r => .cons (.str _) (reps_strs r)
theorem star_kd (hc : X.calm = true) {pins : List (Addr × Obj)} {σ : St} {H : Hp} {s : Shared} {p : Addr} {kvs : List (Str × D)} {E : Value → Shared → Prop} {Q : List Value → Shared → Prop} (I : Inv X pins σ H s) (kd : KD X.K X.w p kvs) (hQ : ∀ us s', Inv X pins σ H s' → Vals (kvs.map fun q => V.str q.1) us → Q us s') :
    PySem.W.StarOf (model X.prog X.w) X.A E (.ref p) Q s := by
  obtain ⟨es, n, hl, hk, he⟩ := kd.ex
  have ho := I.kIn _ _ hl
  have hT : s.TypeIs (.ref p) "dict" := ⟨_, ho, rfl⟩
  have hlen : kvs.length = es.size := by
    have : ∀ {es : List DictEntry} {kvs : List (Str × D)}, EntsD X.K es kvs → kvs.length = es.length := fun h => by
      induction h with
      | nil => rfl
      | cons _ _ _ ih => simp [ih]
    rw [this he]; simp
  have z : wpAny (model X.prog X.w) X.A (collect (.ref p)) Q E s := by
    refine PySem.W.kdu_collect (kdl_raw (prog := X.prog) (w := X.w) kd.low ⟨rfl, rfl, rfl⟩ rfl) (I.ok.hd hc) ho (by have := kd.few; have := mil; omega) fun h' tk acc hkp hacc => ?_
    refine hQ acc.toList _ (I.kept (t' := tk) hkp) (ents_keys he (by rw [Array.length_toList, Array.length_toList]; exact hacc.1) fun i u hu => ?_)
    obtain ⟨en, h1, h2⟩ := hacc.2 i u (by rw [← Array.getElem?_toList]; exact hu)
    exact ⟨en, by rw [Array.getElem?_toList]; exact h1, h2⟩
  unfold PySem.W.StarOf notIterableAtAll
  exact wpAny_bind (wpAny_specialOf hT PySem.F.slot_dict_iter.lookup (wpAny_pure ⟨rfl, z⟩))
variable {c : C0} {W : WX} {es : List Expr} {t : TDA} {x : Str} {p pos : Pos} {kvs : List (Str × D)}
def dStarK (kvs : List (Str × D)) (t : TDA) : TDA := fun Xd e Q => t Xd e fun as e2 => Q ((kvs.map fun q => AR.d (.str q.1)) ++ as) e2
theorem da_starK (hc : X.calm = true) (g : GloK X.K X.w X.mg x kvs) (hr : DA X c W es t) (hg : Gl X x := by rfl) (hd : (x == ("__debug__" : Str)) = false := by decide) (hs : starEach (.Starred (.Name x p) pos :: es) X.env = (true, eval (.Name x p) X.env) :: starEach es X.env := by rfl) : DA X c W (.Starred (.Name x p) pos :: es) (dStarK kvs t) := by
  obtain ⟨pp, h1, kd⟩ := g.ex
  refine ⟨⟨fun pos pins s σ H Q I ⟨G, e, Qd, Xd, rel, h, hQ, hX⟩ => ?_⟩⟩
  refine PySem.W.items_star (thn ((pe_glob hg h1 (show RelV (.ref pp) (.ref pp) from rfl) hd).run pins s σ H (fun y H1 => y = .ref pp ∧ H1 = H) I ⟨rfl, rfl⟩) fun v s1 ⟨y, H1, I1, ry, e1, e2⟩ => ?_) hs
  subst e1 e2
  obtain rfl : v = Value.ref pp := ry
  refine star_kd hc I1 kd fun us s2 I2 rv => ?_
  refine thn (hr.pa.run pos pins s2 σ H1 (fun vs H' => ∃ (as : List AR) (e' : List S) (G' : Hp), Step X.K c σ G H1 e G' H' e' ∧ RepAs X.K G' σ as vs ∧ Qd ((kvs.map fun q => AR.d (.str q.1)) ++ as) e') I2 ⟨G, e, _, Xd, rel, h, fun as e' vs G' H' st ra q => ⟨as, e', G', st, ra, q⟩, hX⟩) fun ws s3 ⟨vs, H3, I3, r3, q3⟩ => ?_
  obtain ⟨as, e', G', st, ra, q⟩ := q3
  refine ⟨(kvs.map fun q => V.str q.1) ++ vs, H3, I3, rv.append r3, hQ _ e' _ G' H3 st ?_ q⟩
  have := reps_app ra (reps_strs (K := X.K) (G := G') kvs)
  rw [List.map_map] at this
  exact this
end
end L3

/-! L3: calls by keyword; a promise for the well's def -/
namespace L3
open PySem PySem.Spec PyProof.Rows L2
structure DKw (X : Cx) (c : C0) (W : WX) (kws : List Keyword) (t : TDA) : Prop where
  pk : PK X kws (liftA X.K c W t)
theorem PK.imp {X : Cx} {kws : List Keyword} {t t' : TA} (h : PK X kws t) (i : ∀ σ H Q, t' σ H Q → t σ H Q) : PK X kws t' := ⟨fun pos pins s σ H Q I q => h.run pos pins s σ H Q I (i σ H Q q)⟩
abbrev GK := {α : Type} → List α → List α → List α
/-- how keywords are put among the parameters -/
structure GKok (g : GK) : Prop where
  rel : ∀ {K : PySem.W.Frag} {G : Hp} {ds zs : List D} {vs ws : List V}, RepDs K G ds vs → RepDs K G zs ws → RepDs K G (g ds zs) (g vs ws)
/-- a def of the module, called with n arguments by place and the keywords ks -/
structure CalK (P : Program) (w : World) (K : PySem.W.Frag) (mg : Str → Option Value) (base : Heap) (k : Nat) (x : Str) (m n : Nat) (ks : List Str) (g : GK) (sp : SpD) : Prop where
  ex : ∃ (f : Addr) (fd : FuncData) (ps : List Str), ps.length = m ∧ FnOk P w K mg base (L2.CX P w) k f fd ps (spOf K m sp) ∧ mg x = some (.ref f) ∧ PySem.W.keepIn K (.ref f) = true ∧ KBn K fd ps n ks (fun us ws => g us ws) (fun vs zs => g vs zs)
  gk : GKok g
section
variable {X : Cx} {c : C0} {W : WX} {k j m n : Nat} {ks : List Str} {g : GK} {sp : SpD} {x : Str} {p pos kpos : Pos} {e ex : Expr} {es : List Expr} {kws : List Keyword} {t tk : TDA} {te : TDE} {nm : Option Str}
theorem dk_nil : DKw X c W [] dNil := ⟨PK.imp pk_nil fun σ H Q ⟨G, e, Qd, Xd, rel, h, hQ, hX⟩ => hQ [] e [] G H (Step.refl rel) .nil h⟩
theorem dk_cons (ha : DE X c W ex te) (hr : DKw X c W kws t) : DKw X c W (⟨nm, ex, kpos⟩ :: kws) (dCons te t) := by
  refine ⟨PK.imp (pk_cons ha.pe hr.pk) fun σ H Q ⟨G, e, Qd, Xd, rel, h, hQ, hX⟩ => ?_⟩
  refine ⟨G, e, _, Xd, rel, h, fun ρ1 e1 v1 G1 H1 st1 r1 h1 => ?_, hX⟩
  obtain ⟨d, s1, h1⟩ := h1
  obtain ⟨G1', st1', rd, _⟩ := Step.asD rel st1 r1 s1
  refine ⟨G1', _, _, Xd, st1'.rel, h1, fun as e2 vs G2 H2 st2 r2 h2 => ?_, hX.step rel st1'⟩
  exact hQ _ e2 _ G2 H2 (st1'.trans rel st2) (.cons (show RepA X.K G2 σ (.d d) v1 from RepD.mono st2.sg rd) r2) h2
theorem run_kw {f : Addr} {fd : FuncData} {ps : List Str} {sp : Sp} {CX : CXT} {E : St → XK} {gg : List Value → List Value → List Value} {gV : List V → List V → List V} {pins : List (Addr × Obj)} {σ : St} {H : Hp} {s : Shared} {Q : VK} {us ws : List Value} {vs zs : List V}
    (F : FnOk X.prog X.w X.K X.mg X.base CX k f fd ps sp) (hr : Room k X.A) (hb : KBn X.K fd ps n ks gg gV) (hx : PassesAt CX X σ (E σ))
    (I : Inv X pins σ H s) (r : Vals vs us) (rz : Vals zs ws) (l1 : vs.length = n) (l2 : zs.length = ks.length) (h : sp (gV vs zs) H Q (E σ)) : wpAny (model X.prog X.w) X.A (call (.ref f) us (ks.zip ws)) (EP X pins σ Q) X.xe s := by
  have r2 := hb.rel r rz
  refine wpAny_call (codeAny_mono (F.run X.A X.stack s H ⟨us, ks.zip ws⟩ (gg us ws) (gV vs zs) Q (E σ) hr I.env0 (hb.to s us ws I.kIn (r.length.symm.trans l1) (rz.length.symm.trans l2)) r2 h) fun r s' hq => ?_)
  cases r with
  | error e => exact hx pins H s e s' I hq
  | ok fl =>
    cases fl with
    | ret u => exact I.after hq
    | next => exact False.elim hq
    | brk => exact False.elim hq
    | cont => exact False.elim hq
/-- f(.., k = v, ..) -/
def dKw (m n kn : Nat) (g : GK) (sp : SpD) (t tk : TDA) : TDE := fun Xd e Q => t Xd e fun as e1 => ∃ ds, dats as = some ds ∧ tk Xd e1 fun bs e2 => ∃ zs, dats bs = some zs ∧ ds.length = n ∧ zs.length = kn ∧ (g ds zs).length = m ∧
  sp ((g ds zs).map S.d) (fun d _ => Q (.d d) e2) (fun x _ => Xd x e2)
theorem de_k0 (C : CalK X.prog X.w X.K X.mg X.base k x m 0 ks g sp) (hr : Room j X.A) (hk : k ≤ j) (tk0 : Takes X W) (ha : DKw X c W kws tk) (hg : Gl X x := by rfl) (hdb : (x == ("__debug__" : Str)) = false := by decide)
    (hall : (backToKw pos (keywordEach kws X.env)).all (·.1.isSome) = true := by rfl) (hks : (backToKw pos (keywordEach kws X.env)).filterMap (·.1) = ks := by rfl)
    (hpl : ((backTo pos (starEach [] X.env)).any (·.1) || (backToKw pos (keywordEach kws X.env)).any (·.1.isNone)) = false := by rfl) : DE X c W (.Call (.Name x p) [] kws pos) (dKw m 0 ks.length g sp dNil tk) := by
  obtain ⟨f, fd, ps, rfl, F, hm, hkp, hb⟩ := C.ex
  refine ⟨⟨fun pins s σ H Q I ⟨G, e0, Qd, Xd, rel, h, hQ, hX⟩ => ?_⟩⟩
  obtain ⟨ds, hds, h⟩ := h
  cases hds
  refine wpAny_Call_Name_kw (ld_glob I hg hm ?_ hdb)
  refine PySem.W.callWith_KW0 (h₀ := X.base) I.ok.mod.kin hkp hall ?_ hpl
  refine thn (ha.pk.run pos pins s σ H (fun zs H2 => zs.length = ks.length ∧ spOf X.K ps.length sp (g [] zs) H2 Q (WE W σ)) I ⟨G, e0, _, Xd, rel, h, fun bs e2 zs G1 H1 s1 r1 h1 => ?_, hX⟩) fun ws s2 ⟨zs, H2, I2, rz, l2, q2⟩ => ⟨I2.kIn, ?_⟩
  · obtain ⟨zd, hz, _, hl, hm2, h1⟩ := h1
    have rd := dats_rep r1 hz
    exact ⟨by rw [← rd.length]; exact hl, call_data s1.rel (C.gk.rel .nil rd) hm2 h1 (fun ρ e' v G' H' st rr q => hQ ρ e' v G' H' (s1.trans rel st) (rr.back s1) q) (hX.step rel s1)⟩
  · rw [hks]
    exact run_kw (us := []) (vs := []) (E := WE W) F (hr.mono hk) hb (passAt tk0 σ) I2 .nil rz rfl l2 q2
end
end L3

/-! L3: the promises of the well's two defs -/
namespace L3
open PySem PySem.Spec PyProof.Rows L2
section
variable {K : PySem.W.Frag} {G H : Hp} {vs : List V} {s s' : S} {r : List S}
theorem ArgRel.head (ar : ArgRel K G H vs (s :: r)) (ho : s'.own = s.own) (hf : s'.fixd = s.fixd) (hs : SlotR K G H s' vs[0]?) : ArgRel K G H vs (s' :: r) where
  len := ar.len
  sl := fun i t h => by
    cases i with
    | zero => simp at h; subst h; exact hs
    | succ i => exact ar.sl (i + 1) t h
  gh := ar.gh
  own := fun i t a h o e => by
    cases i with
    | zero => simp at h; subst h; exact ar.own 0 s a rfl (by rw [← ho]; exact o) e
    | succ i => exact ar.own (i + 1) t a h o e
  inj := fun i j t u a h1 h2 o1 o2 e1 e2 => by
    have f : ∀ (i : Nat) (t : S), (s' :: r)[i]? = some t → t.own = true → ∃ t', (s :: r)[i]? = some t' ∧ t'.own = true := fun i t h o => by
      cases i with
      | zero => simp at h; subst h; exact ⟨s, rfl, by rw [← ho]; exact o⟩
      | succ i => exact ⟨t, h, o⟩
    obtain ⟨t', q1, q2⟩ := f i t h1 o1
    obtain ⟨u', p1, p2⟩ := f j u h2 o2
    exact ar.inj i j t' u' a q1 p1 q2 p2 e1 e2
  fx := fun i t h o => by
    cases i with
    | zero => simp at h; subst h; rw [hf]; exact ar.fx 0 s rfl (by rw [← ho]; exact o)
    | succ i => exact ar.fx (i + 1) t h o
theorem CStep.head {G' H' : Hp} {t t' : S} {r' : List S} (cs : CStep K G H vs (s' :: r) G' H' (t' :: r')) (ho : s'.own = s.own) (hf : s'.fixd = s.fixd) (hfx : s.fixd = true) (ho2 : t.own = t'.own) (hf2 : t.fixd = t'.fixd) (hs : SlotR K G' H' t vs[0]?) : CStep K G H vs (s :: r) G' H' (t :: r') where
  ar := cs.ar.head ho2 hf2 hs
  sg := cs.sg
  fr := fun a o h n => cs.fr a o h fun ⟨i, u, h1, h2, h3⟩ => n (by
    cases i with
    | zero => simp at h1; subst h1; exact ⟨0, s, rfl, by rw [← ho]; exact h2, h3⟩
    | succ i => exact ⟨i + 1, u, h1, h2, h3⟩)
  gn := cs.gn
  th := cs.th
  fx := fun i u h o => by
    cases i with
    | zero =>
      simp at h; subst h
      obtain ⟨w, h1, h2⟩ := cs.fx 0 s' rfl (by rw [hf]; exact o)
      simp at h1; subst h1
      exact ⟨t, rfl, by rw [hf2]; exact h2⟩
    | succ i =>
      obtain ⟨w, h1, h2⟩ := cs.fx (i + 1) u h o
      exact ⟨w, by simpa using h1, h2⟩
  dt := fun i u h o => by
    cases i with
    | zero => simp at h; subst h; rw [hfx] at o; cases o
    | succ i => simpa using cs.dt (i + 1) u h o
end
def wl3 (cs : List Int) (t r : Int) : S := .wl [.lst (cs.map D.int), .int t, .int r]
/-- what the body of the def that draws does -/
def spDraw1 : SpD := fun as Qd Xd => ∃ (cs : List Int) (t r many : Int), as = [wl3 cs t r, .d (.int many)] ∧ cs.length ≤ 60 ∧ 0 ≤ t ∧ t < 2 ^ 40 ∧ 0 ≤ r ∧ many ≤ 1000000 ∧
  ∀ x t' r' : Int, 0 ≤ x → (1 ≤ many → x < many) → 0 ≤ t' → t' ≤ t + 1 → 0 ≤ r' → Qd (.int x) [wl3 cs t' r', .d (.int many)]
def spDraw : SpD := fun as Qd Xd => ∃ (n : Nat) (many : Int), as = [.well n, .d (.int many)] ∧ n < 2 ^ 40 ∧ many ≤ 1000000 ∧
  ∀ x : Int, 0 ≤ x → (1 ≤ many → x < many) → Qd (.int x) [.well (n + 1), .d (.int many)]
theorem reps_ints {K : PySem.W.Frag} {G : Hp} : ∀ cs : List Int, RepDs K G (cs.map D.int) (cs.map V.int)
  | [] => .nil
  | _ :: r => .cons (.int _) (reps_ints r)
theorem reps_ints_inv {K : PySem.W.Frag} {G : Hp} : ∀ {cs : List Int} {vs : List V}, RepDs K G (cs.map D.int) vs → vs = cs.map V.int
  | [], _, h => by cases h; rfl
  | _ :: r, _, h => by
    cases h with
    | cons a b => cases a; rw [reps_ints_inv b]; rfl
theorem draw_sp {K : PySem.W.Frag} {vs : List V} {H : Hp} {Q : VK} {E : XK} (h : spOf K 2 spDraw vs H Q E) : spOf K 2 spDraw1 vs H Q E := by
  obtain ⟨hl, G, as, Qd, Xd, ar, ⟨n, many, rfl, hn, hm, hq⟩, hQ, hX⟩ := h
  obtain ⟨a, ha, c, cs, t, r, h1, h2, h3, h4, h5, h6⟩ := ar.sl 0 _ rfl
  have a1 : ArgRel K G H vs [wl3 cs t r, .d (.int many)] := ar.head rfl rfl ⟨a, _, ha, h1, .cons (.lst h2 (reps_ints cs)) (.cons (.int t) (.cons (.int r) .nil))⟩
  refine ⟨hl, G, _, fun d as' => ∃ x t' r' : Int, d = .int x ∧ as' = [wl3 cs t' r', .d (.int many)] ∧ 0 ≤ x ∧ (1 ≤ many → x < many) ∧ 0 ≤ t' ∧ t' ≤ t + 1 ∧ 0 ≤ r', fun x as' => False, a1,
    ⟨cs, t, r, many, rfl, h3, h4, by omega, h6, hm, fun x t' r' k1 k2 k3 k4 k5 => ⟨x, t', r', rfl, rfl, k1, k2, k3, k4, k5⟩⟩, ?_, fun _ _ _ _ _ _ _ _ z => z.elim⟩
  rintro d as' v G' H' st rv ⟨x, t', r', rfl, rfl, k1, k2, k3, k4, k5⟩
  have hsl := st.ar.sl 0 _ rfl
  obtain ⟨a', ws, e1, e2, e3⟩ := hsl
  refine hQ (.int x) _ v G' H' (st.head (s := .well n) (t := .well (n + 1)) rfl rfl rfl rfl rfl ⟨a', e1, ?_⟩) rv (hq x k1 k2)
  cases e3 with
  | cons f1 f2 =>
    cases f1 with
    | @lst c' cvs _ g1 g2 =>
      cases f2 with
      | cons f3 f4 =>
        cases f3
        cases f4 with
        | cons f5 f6 =>
          cases f5
          cases f6
          rw [reps_ints_inv g2] at g1
          exact ⟨c', cs, t', r', e2, g1, h3, k3, by omega, k5⟩
end L3

/-! L3: a def that gives a new list of its own; the well made -/
namespace L3
open PySem PySem.Spec PyProof.Rows L2
abbrev SpL := List S → (List D → List S → Prop) → (XV → List S → Prop) → Prop
def spOfL (K : PySem.W.Frag) (n : Nat) (sp : SpL) : Sp := fun vs H Q E => vs.length = n ∧ ∃ (G : Hp) (as : List S) (Qd : List D → List S → Prop) (Xd : XV → List S → Prop), ArgRel K G H vs as ∧ sp as Qd Xd ∧
  (∀ (xs : List D) (as' : List S) (a : Addr) (ws : List V) (G' H' : Hp), CStep K G H vs as G' H' as' → H' a = some (.lst ws) → RepDs K G' xs ws → G' a = none → H a = none → Qd xs as' → Q (.ref a) H') ∧
  (∀ (x : XV) (as' : List S) (cl : Value) (dd : Option Addr) (G' H' : Hp), CStep K G H vs as G' H' as' → RepX K G' H' x cl dd → Xd x as' → E cl dd H')
section
variable {P : Program} {w : World} {K : PySem.W.Frag} {mg : Str → Option Value} {base : Heap}
/-- def f(..): return [..] -/
theorem fn_retL {x qual : Str} {st : Stmt} {f : Addr} {fd : FuncData} {N ps : List Str} {k : Nat} {sp : SpL} {t : TDE} {ex : Expr} {pos : Pos} (F : Fun K x qual st f fd) (SC : FnScope N ps (defScope st)) (hb : defBody st = [.Return (some ex) pos])
    (hbody : ∀ (cdv : Value) (A : Around) (outer : List Env) (s : Shared) (H : Hp) (E : XK) (c : C0), Room k (A.deeper (envOfC qual (defScope st) s.heap.objs.size f cdv)) →
      Takes (cxOf (L2.CX P w) P w K mg base N qual (defScope st) f cdv A outer s H E) (WE0 E) → PassesOwn (model P w) (cxOf (L2.CX P w) P w K mg base N qual (defScope st) f cdv A outer s H E).A (cxOf (L2.CX P w) P w K mg base N qual (defScope st) f cdv A outer s H E).env (cxOf (L2.CX P w) P w K mg base N qual (defScope st) f cdv A outer s H E).xe →
      DE (cxOf (L2.CX P w) P w K mg base N qual (defScope st) f cdv A outer s H E) c (WE0 E) ex t)
    (hsp : ∀ (as : List S) (Qd : List D → List S → Prop) (Xd : XV → List S → Prop), as.length = ps.length → sp as Qd Xd → t (fun x e => Xd x (merge as e)) (startE N.length as) (fun ρ e => ∃ xs, ρ = .tl xs ∧ Qd xs (merge as e))) :
    FnOk P w K mg base (L2.CX P w) (k + 1) f fd ps (spOfL K ps.length sp) := by
  refine F.okX SC (fun vs H Q E h => h.1) (fun cdv A outer s H vs Q E hr h => ?_)
  obtain ⟨hlen, G, as, Qd, Xd, ar, hs, hQ, hE⟩ := h
  have tk : Takes (cxOf (L2.CX P w) P w K mg base N qual (defScope st) f cdv A outer s H E) (WE0 E) := takes_of rfl rfl rfl rfl
  have hpl : ps.length ≤ N.length := by have := congrArg List.length SC.pre; rw [List.length_take] at this; omega
  have hN : vs.length ≤ N.length := by omega
  have r0 := ar.begin_ (N := N) hN
  rw [hb]
  refine ⟨_, pss_one (ps_ret (hbody cdv A outer s H E ⟨H, G, adOf vs as, N.length⟩ hr tk (passes_of rfl)).pe), ?_⟩
  refine ⟨G, startE N.length as, _, _, r0, hsp as Qd Xd (by rw [← ar.len]; exact hlen) hs, ?_, ?_⟩
  · rintro ρ e' v G' H' st rr ⟨xs, rfl, q⟩
    obtain ⟨a, ws, rfl, k1, k2, k3, k4, k5⟩ := rr
    exact hQ xs _ a ws G' H' (ar.fin hN st.rel) k1 k2 k3 k4 q
  · exact fun x' e' cl dd G' H' stp rx q => hE x' _ cl dd G' H' (ar.fin hN stp.rel) rx q
structure CalL (P : Program) (w : World) (K : PySem.W.Frag) (mg : Str → Option Value) (base : Heap) (k : Nat) (x : Str) (n : Nat) (sp : SpL) : Prop where
  ex : ∃ (f : Addr) (fd : FuncData) (ps : List Str), ps.length = n ∧ FnOk P w K mg base (L2.CX P w) k f fd ps (spOfL K n sp) ∧ mg x = some (.ref f) ∧ PySem.W.keepIn K (.ref f) = true ∧ Binds K fd ps []
end
section
variable {X : Cx} {c : C0} {W : WX} {k j n : Nat} {sp : SpL} {x : Str} {p pos : Pos} {e : Expr} {es : List Expr} {t : TDA}
/-- f(data ..), a new list -/
def dCallL (n : Nat) (sp : SpL) (t : TDA) : TDE := fun Xd e Q => t Xd e fun as e1 => ∃ ds, dats as = some ds ∧ ds.length = n ∧ sp (ds.map S.d) (fun xs _ => Q (.tl xs) e1) (fun x _ => Xd x e1)
/-- f(data ..), the well -/
def dCallW (n m : Nat) (sp : SpL) (t : TDA) : TDE := fun Xd e Q => t Xd e fun as e1 => ∃ ds, dats as = some ds ∧ ds.length = n ∧ sp (ds.map S.d) (fun xs _ => (∃ (cs : List Int) (t r : Int), xs = [.lst (cs.map D.int), .int t, .int r] ∧ cs.length ≤ 60 ∧ 0 ≤ t ∧ t ≤ m ∧ 0 ≤ r) ∧ Q (.tw m) e1) (fun x _ => Xd x e1)
theorem callL_data {K : PySem.W.Frag} {n : Nat} {σ : St} {G H : Hp} {e1 : List S} {ds : List D} {vs : List V} {Xd : XD} {Q : VK} {Qd : List D → List S → Prop} (rel : Rel K c G H σ e1) (rd : RepDs K G ds vs) (hl : ds.length = n) (h : sp (ds.map S.d) Qd (fun x _ => Xd x e1))
    (hQ : ∀ (xs : List D) (as' : List S) (a : Addr) (ws : List V) (G' H' : Hp), Step K c σ G H e1 G' H' e1 → H' a = some (.lst ws) → RepDs K G' xs ws → G' a = none → H a = none → Qd xs as' → Q (.ref a) H') (hX : KE K c W Xd σ G H e1) : spOfL K n sp vs H Q (WE W σ) := by
  have nod : ∀ (i : Nat) (s : S), (ds.map S.d)[i]? = some s → s.own = true → False := fun i s q o => by
    rw [(slots_rep rd i s q).1] at o; cases o
  have st : ∀ {G' H' : Hp} {as' : List S}, CStep K G H vs (ds.map S.d) G' H' as' → Step K c σ G H e1 G' H' e1 := fun {G' H' as'} cs =>
    Step.ext rel (fun a o h => cs.fr a o h fun ⟨i, s, q, o, _⟩ => nod i s q o) cs.sg cs.ar.gh cs.gn
  refine ⟨by rw [← rd.length]; exact hl, G, ds.map S.d, _, _, ⟨by rw [List.length_map]; exact rd.length.symm, fun i s q => (slots_rep rd i s q).2.2, rel.gh, fun i s a q o => (nod i s q o).elim, fun i j s t a q _ o => (nod i s q o).elim, fun i s q o => (nod i s q o).elim⟩, h, ?_, ?_⟩
  · exact fun xs as' a ws G' H' cs k1 k2 k3 k4 q => hQ xs as' a ws G' H' (st cs) k1 k2 k3 k4 q
  · exact fun x as' cl dd G' H' cs rx q => hX x e1 cl dd G' H' (st cs) rx q
theorem de_cL (C : CalL X.prog X.w X.K X.mg X.base k x n sp) (hr : Room j X.A) (hk : k ≤ j) (tk : Takes X W) (ha : DA X c W (e :: es) t) (hg : Gl X x := by rfl) (hdb : (x == ("__debug__" : Str)) = false := by decide) (he : starEach (e :: es) X.env = (false, eval e X.env) :: starEach es X.env := by rfl)
    (hpl : (backTo pos (starEach es X.env)).any (·.1) = false := by rfl) : DE X c W (.Call (.Name x p) (e :: es) [] pos) (dCallL n sp t) := by
  obtain ⟨f, fd, ps, rfl, F, hm, hkp, hb⟩ := C.ex
  refine ⟨PE.imp (pe_callSD F (hr.mono hk) hg hm hkp hb .nil (fun σ => passAt tk σ) ha.pa hdb he hpl) fun σ H Q ⟨G, e0, Qd, Xd, rel, h, hQ, hX⟩ => ?_⟩
  refine ⟨G, e0, _, Xd, rel, h, fun as e1 vs G1 H1 s1 r1 h1 => ?_, hX⟩
  obtain ⟨ds, hds, hl, h1⟩ := h1
  show spOfL _ _ _ (vs ++ []) _ _ _
  rw [List.append_nil]
  refine callL_data s1.rel (dats_rep r1 hds) hl h1 (fun xs as' a ws G' H' st k1 k2 k3 k4 q => ?_) (hX.step rel s1)
  refine hQ (.tl xs) e1 _ G' H' (s1.trans rel st) (RepR.back s1 (ρ := .tl xs) ⟨a, ws, rfl, k1, k2, k3, k4, fun z => ?_⟩) q
  exact s1.rel.freshO k4 (st.ow a z)
theorem de_cW (m : Nat) (C : CalL X.prog X.w X.K X.mg X.base k x n sp) (hr : Room j X.A) (hk : k ≤ j) (tk : Takes X W) (ha : DA X c W (e :: es) t) (hg : Gl X x := by rfl) (hdb : (x == ("__debug__" : Str)) = false := by decide) (he : starEach (e :: es) X.env = (false, eval e X.env) :: starEach es X.env := by rfl)
    (hpl : (backTo pos (starEach es X.env)).any (·.1) = false := by rfl) : DE X c W (.Call (.Name x p) (e :: es) [] pos) (dCallW n m sp t) := by
  obtain ⟨f, fd, ps, rfl, F, hm, hkp, hb⟩ := C.ex
  refine ⟨PE.imp (pe_callSD F (hr.mono hk) hg hm hkp hb .nil (fun σ => passAt tk σ) ha.pa hdb he hpl) fun σ H Q ⟨G, e0, Qd, Xd, rel, h, hQ, hX⟩ => ?_⟩
  refine ⟨G, e0, _, Xd, rel, h, fun as e1 vs G1 H1 s1 r1 h1 => ?_, hX⟩
  obtain ⟨ds, hds, hl, h1⟩ := h1
  show spOfL _ _ _ (vs ++ []) _ _ _
  rw [List.append_nil]
  refine callL_data s1.rel (dats_rep r1 hds) hl h1 (fun xs as' a ws G' H' st k1 k2 k3 k4 q => ?_) (hX.step rel s1)
  obtain ⟨⟨cs, t', r', rfl, b1, b2, b3, b4⟩, q⟩ := q
  have wa : WellAt X.K G' H' a m := by
    cases k2 with
    | cons f1 f2 =>
      cases f1 with
      | @lst c' cvs _ g1 g2 =>
        cases f2 with
        | cons f3 f4 =>
          cases f3
          cases f4 with
          | cons f5 f6 =>
            cases f5
            cases f6
            rw [reps_ints_inv g2] at g1
            exact ⟨c', cs, t', r', k1, g1, b1, b2, b3, b4⟩
  refine hQ (.tw m) e1 _ G' H' (s1.trans rel st) (RepR.back s1 (ρ := .tw m) ⟨a, rfl, wa, k3, k4, fun z => ?_⟩) q
  exact s1.rel.freshO k4 (st.ow a z)
end
def spWell : SpL := fun as Qd Xd => ∃ ns : List Int, as = [.d (scrD (ns.map D.int))] ∧ ns.length ≤ 1000000 ∧ Qd [.lst ((ns.take 60).map D.int), .int 0, .int 0] as
end L3

/-! L3: the terms stepped from the head -/
namespace L3
open PySem PySem.Spec PyProof.Rows L2
section
variable {Xd : XD} {De : EndsD} {e : List S} {Q : R → List S → Prop} {Qb : Bool → List S → Prop} {Qa : List AR → List S → Prop} {Qo : Option Int → List S → Prop} {t u : TDS} {tc tA tB' : TDT} {te ta tb tcc : TDE} {tas : TDA} {i j : Nat} {x y : D} {xs ys : List D} {b : Bool} {r3 r3' : R3} {r31 : R31} {s : S} {Qr : R → Prop}
theorem x_seq (h : t Xd { De with nx := u Xd De } e) : dSeq t u Xd De e := h
theorem x_next (h : De.nx e) : dNext Xd De e := h
theorem x_cont (h : De.ct e) : dCont Xd De e := h
theorem x_break (h : De.bk e) : dBreak Xd De e := h
theorem x_drop (h : te Xd e fun _ e1 => De.nx e1) : dDrop te Xd De e := h
theorem x_ret (h : te Xd e fun ρ e1 => ∃ d, see e1 ρ = some d ∧ De.rt d (fz e1 ρ)) : dRet te Xd De e := h
theorem x_ifs (h : tc Xd e fun b e1 => if b = true then t Xd De e1 else u Xd De e1) : dIfS tc t u Xd De e := h
theorem x_set (h : te Xd e fun ρ e1 => free e1 i ∧ ∃ e2, asg e1 i ρ = some e2 ∧ De.nx e2) : dSet i te Xd De e := h
theorem x_asg {t : TGD} (h : te Xd e fun ρ e1 => ∃ d, see e1 ρ = some d ∧ t d (fz e1 ρ) De.nx) : dAsg te t Xd De e := h
theorem x_par (h : ta Xd e fun ρ1 e1 => tb Xd e1 fun ρ2 e2 => (∀ k, ρ1 ≠ .sl k) ∧ (∀ k, ρ2 ≠ .sl k) ∧ free e2 i ∧ free e2 j ∧ ∃ e3 e4, asg e2 i ρ1 = some e3 ∧ asg e3 j ρ2 = some e4 ∧ De.nx e4) : dPar i j ta tb Xd De e := h
theorem x_wset {k : Int} (h : te Xd e fun ρ e1 => ∃ d xs j, see e1 ρ = some d ∧ (fz e1 ρ)[i]? = some (.wl xs) ∧ ixN xs.length k = some j ∧ De.nx ((fz e1 ρ).set i (.wl (xs.set j d)))) : dWset i k te Xd De e := h
theorem x_free (h : e[i]? = some s) (hf : s.fixd = false) : free e i := ⟨s, h, hf⟩
/-! tests -/
theorem x_b (h : te Xd e fun ρ e1 => ∃ b, see e1 ρ = some (.bl b) ∧ Qb b e1) : dB te Xd e Qb := h
theorem x_not (h : tc Xd e fun b e1 => Qb (!b) e1) : dNot tc Xd e Qb := h
theorem x_and (h : tA Xd e fun b e1 => if b = true then tB' Xd e1 Qb else Qb false e1) : dAnd tA tB' Xd e Qb := h
theorem x_or (h : tA Xd e fun b e1 => if b = true then Qb true e1 else tB' Xd e1 Qb) : dOr tA tB' Xd e Qb := h
theorem x_andV (h : ta Xd e fun ρ e1 => ∃ b, see e1 ρ = some (.bl b) ∧ if b = true then tb Xd e1 Q else Q (.d (.bl false)) e1) : dAndV ta tb Xd e Q := h
theorem x_orV (h : ta Xd e fun ρ e1 => ∃ b, see e1 ρ = some (.bl b) ∧ if b = true then Q (.d (.bl true)) e1 else tb Xd e1 Q) : dOrV ta tb Xd e Q := h
theorem x_notV (h : tc Xd e fun b e1 => Q (.d (.bl (!b))) e1) : dNotV tc Xd e Q := h
theorem x_if (h : tc Xd e fun b e1 => if b = true then ta Xd e1 Q else tb Xd e1 Q) : dIf tc ta tb Xd e Q := h
theorem x_yes (h : Qb true e) : dYes Xd e Qb := h
/-! values -/
theorem x_c (h : Q (.d x) e) : dC x Xd e Q := h
theorem x_var (h0 : e[i]? = some s) (h : match (some s : Option S) with
  | some (.d x) => Q (.d x) e
  | some .no => False
  | none => False
  | some _ => Q (.sl i) e) : dVar i Xd e Q := by unfold dVar; rw [h0]; exact h
theorem x_bin (h : ta Xd e fun ρ1 e1 => tb Xd e1 fun ρ2 e2 => ∃ d1 d2, see e2 ρ1 = some d1 ∧ see e2 ρ2 = some d2 ∧ r3 d1 d2 fun ρ => Q ρ e2) : dBin r3 ta tb Xd e Q := h
theorem x_un (h : ta Xd e fun ρ1 e1 => ∃ d1, see e1 ρ1 = some d1 ∧ r31 d1 fun ρ => Q ρ e1) : dUn r31 ta Xd e Q := h
theorem x_chain (h : ta Xd e fun ρ1 e1 => tb Xd e1 fun ρ2 e2 => ∃ d1 d2, see e2 ρ1 = some d1 ∧ see e2 ρ2 = some d2 ∧ r3 d1 d2 fun ρ => ∃ k, ρ = .d (.bl k) ∧
  if k = true then tcc Xd e2 fun ρ3 e3 => ∃ d2 d3, see e3 ρ2 = some d2 ∧ see e3 ρ3 = some d3 ∧ r3' d2 d3 fun ρ' => Q ρ' e3 else Q (.d (.bl false)) e2) : dChain r3 r3' ta tb tcc Xd e Q := h
theorem x_nil (h : Qa [] e) : dNil Xd e Qa := h
theorem x_cons (h : te Xd e fun ρ e1 => ∃ d, see e1 ρ = some d ∧ tas Xd (fz e1 ρ) fun as e2 => Qa (.d d :: as) e2) : dCons te tas Xd e Qa := h
theorem x_ref (h0 : e[i]? = some s) (h1 : s.fixd = true) (h : tas Xd e fun as e2 => Qa (.rf i :: as) e2) : dRef i tas Xd e Qa := ⟨⟨s, h0, h1⟩, h⟩
theorem x_star (h : te Xd e fun ρ e1 => ∃ xs, (see e1 ρ = some (.lst xs) ∨ see e1 ρ = some (.tup xs)) ∧ tas Xd (fz e1 ρ) fun as e2 => Qa (xs.map AR.d ++ as) e2) : dStar te tas Xd e Qa := h
theorem x_starK {kvs : List (Str × D)} (h : tas Xd e fun as e2 => Qa ((kvs.map fun q => AR.d (.str q.1)) ++ as) e2) : dStarK kvs tas Xd e Qa := h
theorem x_tup (h : tas Xd e fun as e1 => ∃ ds, dats as = some ds ∧ ds.length ≤ 1000000 ∧ Q (.d (.tup ds)) e1) : dTup tas Xd e Q := h
theorem x_lst (h : tas Xd e fun as e1 => ∃ ds, dats as = some ds ∧ ds.length ≤ 1000000 ∧ Q (.tl ds) e1) : dLst tas Xd e Q := h
theorem x_dict0 (h : Q (.td [] []) e) : dDict0 Xd e Q := h
theorem x_call {n : Nat} {sp : SpD} {dds : List D} (h : tas Xd e fun as e1 => ∃ ds, dats as = some ds ∧ (ds ++ dds).length = n ∧ sp ((ds ++ dds).map S.d) (fun d _ => Q (.d d) e1) (fun x _ => Xd x e1)) : dCall n sp dds tas Xd e Q := h
theorem x_callR {n : Nat} {sp : SpD} (h : tas Xd e fun as e1 => ∃ i r ds s, as = .rf i :: r ∧ dats r = some ds ∧ ds.length + 1 = n ∧ e1[i]? = some s ∧ s.fixd = true ∧
  sp (s :: ds.map S.d) (fun d as' => ∃ s' r', as' = s' :: r' ∧ Q (.d d) (e1.set i s')) (fun x as' => ∃ s' r', as' = s' :: r' ∧ Xd x (e1.set i s'))) : dCallR n sp tas Xd e Q := h
theorem x_app (h0 : e[i]? = some (.ol ys)) (h : te Xd e fun ρ e1 => ∃ d xs, see e1 ρ = some d ∧ (fz e1 ρ)[i]? = some (.ol xs) ∧ xs.length < 1000000 ∧ Q (.d .non) ((fz e1 ρ).set i (.ol (xs ++ [d])))) : dApp i te Xd e Q := ⟨⟨ys, h0⟩, h⟩
theorem x_ext (h0 : e[i]? = some (.ol ys)) (h : te Xd e fun ρ e1 => ∃ ds xs, see e1 ρ = some (.lst ds) ∧ (fz e1 ρ)[i]? = some (.ol xs) ∧ xs.length + ds.length ≤ 1000000 ∧ Q (.d .non) ((fz e1 ρ).set i (.ol (xs ++ ds)))) : dExt i te Xd e Q := ⟨⟨ys, h0⟩, h⟩
theorem x_pop {xs ys : List D} (h0 : e[i]? = some (.ol ys)) (h1 : ys = xs ++ [x]) (h : Q (.d x) (e.set i (.ol xs))) : dPop i Xd e Q := ⟨ys, x, h0, by subst h1; simp, by subst h1; simpa using h⟩
theorem x_sl {tl th : TDO} (h : te Xd e fun ρ e1 => tl Xd e1 fun lo e2 => th Xd e2 fun hi e3 => ∃ d, see e3 ρ = some d ∧ ((∃ xs, d = .lst xs ∧ Q (.tl (cutD xs lo hi)) e3) ∨ ∃ xs, d = .tup xs ∧ Q (.d (.tup (cutD xs lo hi))) e3)) : dSl te tl th Xd e Q := h
theorem x_slS {tl th : TDO} (h : te Xd e fun ρ e1 => tl Xd e1 fun lo e2 => th Xd e2 fun hi e3 => ∃ xs, see e3 ρ = some (scrD xs) ∧ Q (.tl (cutD xs lo hi)) e3) : dSlS te tl th Xd e Q := h
theorem x_part (h : te Xd e fun ρ e1 => ∃ i, see e1 ρ = some (.int i) ∧ Qo (some i) e1) : dPart te Xd e Qo := h
theorem x_nopart (h : Qo none e) : dNoPart Xd e Qo := h
theorem x_wix {k : Int} (h0 : e[i]? = some (.wl xs)) (h1 : atI xs k = some x) (h : Q (.d x) e) : dWix i k Xd e Q := ⟨xs, x, h0, h1, h⟩
theorem x_ixK {kvs : List (Str × D)} (h : te Xd e fun ρ e1 => ∃ z d, see e1 ρ = some (.str z) ∧ getK kvs z = some d ∧ Q (.d d) e1) : dIxK kvs te Xd e Q := h
theorem x_inK {kvs : List (Str × D)} (h : te Xd e fun ρ e1 => ∃ z, see e1 ρ = some (.str z) ∧ Q (.d (.bl (getK kvs z).isSome)) e1) : dInK kvs te Xd e Q := h
theorem x_notInK {kvs : List (Str × D)} (h : te Xd e fun ρ e1 => ∃ z, see e1 ρ = some (.str z) ∧ Q (.d (.bl (!(getK kvs z).isSome))) e1) : dNotInK kvs te Xd e Q := h
/-! targets -/
theorem x_gname {k : List S → Prop} (h0 : e[i]? = some s) (h1 : s.fixd = false) (h : k (e.set i (.d x))) : dgName i x e k := ⟨⟨s, h0, h1⟩, h⟩
theorem x_gtup {k : List S → Prop} {n : Nat} {us : TGDs} (hl : xs.length = n) (h : us xs e k) : dgTup n us (.tup xs) e k := ⟨xs, rfl, hl, h⟩
theorem x_gcons {k : List S → Prop} {t : TGD} {us : TGDs} (h : t x e fun e1 => us xs e1 k) : dgCons t us (x :: xs) e k := ⟨x, xs, rfl, h⟩
theorem x_gnil {k : List S → Prop} (h : k e) : dgNil [] e k := ⟨rfl, h⟩
/-! walks -/
theorem x_for {ti : TDI} {t : TGD} {tb : TDS} (h : ti Xd e fun xs e1 => forN t tb Xd De xs e1) : dFor ti t tb Xd De e := h
theorem x_iseq {Qi : List D → List S → Prop} (h : te Xd e fun ρ e1 => ∃ d xs, see e1 ρ = some d ∧ d.items = some xs ∧ Qi xs (fz e1 ρ)) : diSeq te Xd e Qi := h
theorem x_irng {Qi : List D → List S → Prop} (h : te Xd e fun ρ e1 => ∃ j, see e1 ρ = some (.int j) ∧ -(2 ^ 62) ≤ j ∧ j < 2 ^ 62 ∧ Qi (rangeD 0 j.toNat) e1) : diRng1 te Xd e Qi := h
/-! what is seen -/
theorem x_see1 {P : D → Prop} (h : P x) : ∃ d, see e (.d x) = some d ∧ P d := ⟨x, rfl, h⟩
theorem x_seel {P : D → Prop} (h : P (.lst xs)) : ∃ d, see e (.tl xs) = some d ∧ P d := ⟨_, rfl, h⟩
theorem x_seeb {P : Bool → Prop} (h : P b) : ∃ k, see e (.d (.bl b)) = some (.bl k) ∧ P k := ⟨b, rfl, h⟩
theorem x_seei {P : Int → Prop} {k : Int} (h : P k) : ∃ i, see e (.d (.int k)) = some (.int i) ∧ P i := ⟨k, rfl, h⟩
theorem x_sees {P : Str → Prop} {k : Str} (h : P k) : ∃ i, see e (.d (.str k)) = some (.str i) ∧ P i := ⟨k, rfl, h⟩
theorem x_getk {P : D → Prop} {k : Str} {kvs : List (Str × D)} (h0 : getK kvs k = some x) (h : P x) : ∃ z d, see e (.d (.str k)) = some (.str z) ∧ getK kvs z = some d ∧ P d := ⟨k, x, rfl, h0, h⟩
theorem x_slt {A P : List D → Prop} (h : P xs) : (∃ ys, D.tup xs = .lst ys ∧ A ys) ∨ ∃ ys, D.tup xs = .tup ys ∧ P ys := .inr ⟨xs, rfl, h⟩
theorem x_sll {A P : List D → Prop} (h : A xs) : (∃ ys, D.lst xs = .lst ys ∧ A ys) ∨ ∃ ys, D.lst xs = .tup ys ∧ P ys := .inl ⟨xs, rfl, h⟩
theorem x_see2 {P : D → D → Prop} {ρ1 ρ2 : R} (h1 : see e ρ1 = some x) (h2 : see e ρ2 = some y) (h : P x y) : ∃ d1 d2, see e ρ1 = some d1 ∧ see e ρ2 = some d2 ∧ P d1 d2 := ⟨x, y, h1, h2, h⟩
theorem x_seesl {P : D → Prop} {ρ : R} (h1 : see e ρ = some x) (h : P x) : ∃ d, see e ρ = some d ∧ P d := ⟨x, h1, h⟩
theorem x_ift {A B : Prop} (h : A) : if true = true then A else B := by rw [if_pos rfl]; exact h
theorem x_iff {A B : Prop} (h : B) : if false = true then A else B := by rw [if_neg Bool.false_ne_true]; exact h
/-! operations -/
theorem x_isi {Ts : List String} (h0 : x.isIns = false) (h : Qr (.d (.bl (Ts.any (isTy x))))) : r31Isi Ts x Qr := ⟨h0, h⟩
theorem x_len_l (h0 : xs.length ≤ 1000000) (h : Qr (.d (.int xs.length))) : r31Len (.lst xs) Qr := ⟨_, rfl, Nat.le_trans h0 mil, h⟩
theorem x_len_t (h0 : xs.length ≤ 1000000) (h : Qr (.d (.int xs.length))) : r31Len (.tup xs) Qr := ⟨_, rfl, Nat.le_trans h0 mil, h⟩
theorem x_ix_l {k : Int} (h0 : atI xs k = some x) (h : Qr (.d x)) : r3Ix (.lst xs) (.int k) Qr := ⟨k, rfl, .inl ⟨xs, x, rfl, h0, h⟩⟩
theorem x_ix_t {k : Int} (h0 : atI xs k = some x) (h : Qr (.d x)) : r3Ix (.tup xs) (.int k) Qr := ⟨k, rfl, .inr (.inl ⟨xs, x, rfl, h0, h⟩)⟩
theorem at_zero (x : D) (r : List D) : atI (x :: r) 0 = some x := by unfold atI ixN; simp
theorem at_one (x y : D) (r : List D) : atI (x :: y :: r) 1 = some y := by
  have h : ((1 : Int) < ((x :: y :: r).length : Nat)) := by simp only [List.length_cons]; omega
  unfold atI ixN
  rw [if_pos (by decide), if_pos h]
  rfl
theorem at_two (x y z : D) (r : List D) : atI (x :: y :: z :: r) 2 = some z := by
  have h : ((2 : Int) < ((x :: y :: z :: r).length : Nat)) := by simp only [List.length_cons]; omega
  unfold atI ixN
  rw [if_pos (by decide), if_pos h]
  rfl
theorem x_ix_t0 {r : List D} (h : Qr (.d x)) : r3Ix (.tup (x :: r)) (.int 0) Qr := x_ix_t (at_zero x r) h
theorem x_ix_l0 {r : List D} (h : Qr (.d x)) : r3Ix (.lst (x :: r)) (.int 0) Qr := x_ix_l (at_zero x r) h
theorem x_ix_t1 {r : List D} {z : D} (h : Qr (.d x)) : r3Ix (.tup (z :: x :: r)) (.int 1) Qr := x_ix_t (at_one z x r) h
theorem x_ix_l1 {r : List D} {z : D} (h : Qr (.d x)) : r3Ix (.lst (z :: x :: r)) (.int 1) Qr := x_ix_l (at_one z x r) h
theorem x_ix_t2 {r : List D} {z w : D} (h : Qr (.d x)) : r3Ix (.tup (z :: w :: x :: r)) (.int 2) Qr := x_ix_t (at_two z w x r) h
theorem x_ix_l2 {r : List D} {z w : D} (h : Qr (.d x)) : r3Ix (.lst (z :: w :: x :: r)) (.int 2) Qr := x_ix_l (at_two z w x r) h
theorem x_plus_i {k l : Int} (h : Qr (.d (.int (k + l)))) : r3Plus (.int k) (.int l) Qr := .inl ⟨k, l, rfl, rfl, trivial, h⟩
theorem x_plus_l {xs ys : List D} (h0 : xs.length + ys.length ≤ 1000000) (h : Qr (.tl (xs ++ ys))) : r3Plus (.lst xs) (.lst ys) Qr := .inr (.inr (.inl ⟨xs, ys, rfl, rfl, h0, h⟩))
theorem x_sub_i {k l : Int} (h : Qr (.d (.int (k - l)))) : r3Sub (.int k) (.int l) Qr := ⟨k, l, rfl, rfl, trivial, h⟩
theorem x_lt {k l : Int} (h : Qr (.d (.bl (decide (k < l))))) : r3Lt (.int k) (.int l) Qr := ⟨k, l, rfl, rfl, trivial, h⟩
theorem x_le {k l : Int} (h : Qr (.d (.bl (decide (k ≤ l))))) : r3Le (.int k) (.int l) Qr := ⟨k, l, rfl, rfl, trivial, h⟩
theorem x_gt {k l : Int} (h : Qr (.d (.bl (decide (l < k))))) : r3Gt (.int k) (.int l) Qr := ⟨k, l, rfl, rfl, trivial, h⟩
theorem x_ge {k l : Int} (h : Qr (.d (.bl (decide (l ≤ k))))) : r3Ge (.int k) (.int l) Qr := ⟨k, l, rfl, rfl, trivial, h⟩
theorem x_star_i {k l : Int} (h0 : CMul k l) (h : Qr (.d (.int (k * l)))) : r3Star (.int k) (.int l) Qr := .inl ⟨k, l, rfl, rfl, h0, h⟩
theorem x_div {k l : Int} (h0 : 0 < l) (h1 : l < 1073741824) (h : Qr (.d (.int (k / l)))) : r3Div (.int k) (.int l) Qr := ⟨k, l, rfl, rfl, ⟨h0, h1⟩, h⟩
theorem x_mod {k l : Int} (h0 : 0 < l) (h : Qr (.d (.int (k % l)))) : r3Mod (.int k) (.int l) Qr := ⟨k, l, rfl, rfl, h0, h⟩
theorem x_pow {k l : Int} (h0 : CPowG k l) (h : Qr (.d (.int (k ^ l.toNat)))) : r3PowG (.int k) (.int l) Qr := ⟨k, l, rfl, rfl, h0, h⟩
theorem x_int_i {k : Int} (h : Qr (.d (.int k))) : r31Int (.int k) Qr := .inl ⟨k, rfl, h⟩
theorem x_int_b {b : Bool} (h : Qr (.d (.int (if b then 1 else 0)))) : r31Int (.bl b) Qr := .inr ⟨b, rfl, h⟩
theorem x_abs {k : Int} (h : Qr (.d (.int (if k < 0 then -k else k)))) : r31Abs (.int k) Qr := ⟨k, rfl, h⟩
theorem x_wsetn {P : D → List D → Nat → Prop} {ρ : R} {k : List S} {kk : Int} {jj : Nat} (h0 : see e ρ = some x) (h1 : k[i]? = some (.wl xs)) (h2 : ixN xs.length kk = some jj) (h : P x xs jj) : ∃ d xs j, see e ρ = some d ∧ k[i]? = some (.wl xs) ∧ ixN xs.length kk = some j ∧ P d xs j := ⟨x, xs, jj, h0, h1, h2, h⟩
theorem x_eq_i {k l : Int} (h : Qr (.d (.bl (k == l)))) : r3Eq (.int k) (.int l) Qr := ⟨by simp [eqOk, D.noi, D.flat, D.depth], h⟩
theorem x_ne_i {k l : Int} (h : Qr (.d (.bl (!(k == l))))) : r3Ne (.int k) (.int l) Qr := ⟨by simp [eqOk, D.noi, D.flat, D.depth, D.isDct], h⟩
theorem x_eq {y : D} (h0 : eqOk x y = true) (h : Qr (.d (.bl (D.eqv x y)))) : r3Eq x y Qr := ⟨h0, h⟩
theorem x_ne {y : D} (h0 : (eqOk x y && !x.isDct && !y.isDct) = true) (h : Qr (.d (.bl (!D.eqv x y)))) : r3Ne x y Qr := ⟨h0, h⟩
theorem x_is_n (h : Qr (.d (.bl x.isNon))) : r3Is x .non Qr := .inl ⟨rfl, h⟩
theorem x_isnot_n (h : Qr (.d (.bl (!x.isNon)))) : r3IsNot x .non Qr := .inl ⟨rfl, h⟩
theorem x_in_t (h0 : x.flat0 = true) (h1 : xs.all D.flat0 = true) (h : Qr (.d (.bl (inD x xs)))) : r3In x (.tup xs) Qr := .inr ⟨xs, .inr rfl, h0, h1, h⟩
theorem x_notin_t (h0 : x.flat0 = true) (h1 : xs.all D.flat0 = true) (h : Qr (.d (.bl (!inD x xs)))) : r3NotIn x (.tup xs) Qr := .inr ⟨xs, .inr rfl, h0, h1, h⟩
theorem x_in_s {z w : Str} (h : Qr (.d (.bl (inStr z w)))) : r3In (.str z) (.str w) Qr := .inl ⟨z, w, rfl, rfl, h⟩
theorem x_list_t (h : Qr (.tl xs)) : r31List (.tup xs) Qr := ⟨xs, .inr rfl, h⟩
theorem x_list_l (h : Qr (.tl xs)) : r31List (.lst xs) Qr := ⟨xs, .inl rfl, h⟩
theorem x_while {tb : TDS} {n : Nat} (h : tc Xd e fun b e1 => if b = true then tb Xd { De with nx := whileN tc tb Xd De n, ct := whileN tc tb Xd De n, bk := De.nx } e1 else De.nx e1) : whileN tc tb Xd De (n + 1) e := h
theorem x_wh {tb : TDS} (n : Nat) (h : whileN tc tb Xd De n e) : dWhile tc tb Xd De e := ⟨n, h⟩
theorem x_ifp {c : Bool} {A B : Prop} (h : c = true) (hA : A) : if c = true then A else B := by rw [if_pos h]; exact hA
theorem x_ifn {c : Bool} {A B : Prop} (h : c = false) (hB : B) : if c = true then A else B := by rw [if_neg (by rw [h]; exact Bool.false_ne_true)]; exact hB
theorem x_extn {P : List D → List D → Prop} {ρ : R} {k : List S} (h0 : see e ρ = some (.lst ys)) (h1 : k[i]? = some (.ol xs)) (h2 : xs.length + ys.length ≤ 1000000) (h : P ys xs) : ∃ ds xs, see e ρ = some (.lst ds) ∧ k[i]? = some (.ol xs) ∧ xs.length + ds.length ≤ 1000000 ∧ P ds xs := ⟨ys, xs, h0, h1, h2, h⟩
theorem x_appn {P : D → List D → Prop} {ρ : R} {k : List S} (h0 : see e ρ = some x) (h1 : k[i]? = some (.ol xs)) (h2 : xs.length < 1000000) (h : P x xs) : ∃ d xs, see e ρ = some d ∧ k[i]? = some (.ol xs) ∧ xs.length < 1000000 ∧ P d xs := ⟨x, xs, h0, h1, h2, h⟩
theorem x_asgn {P : List S → Prop} {ρ : R} {e2 : List S} (h0 : e[i]? = some s) (h1 : s.fixd = false) (h2 : asg e i ρ = some e2) (h : P e2) : free e i ∧ ∃ e2, asg e i ρ = some e2 ∧ P e2 := ⟨⟨s, h0, h1⟩, e2, h2, h⟩
theorem x_parn {P : List S → Prop} {ρ1 ρ2 : R} {e3 e4 : List S} {s s' : S} (n1 : ∀ k, ρ1 ≠ .sl k) (n2 : ∀ k, ρ2 ≠ .sl k) (h0 : e[i]? = some s) (h1 : s.fixd = false) (h0' : e[j]? = some s') (h1' : s'.fixd = false) (h2 : asg e i ρ1 = some e3) (h3 : asg e3 j ρ2 = some e4) (h : P e4) :
    (∀ k, ρ1 ≠ .sl k) ∧ (∀ k, ρ2 ≠ .sl k) ∧ free e i ∧ free e j ∧ ∃ e3 e4, asg e i ρ1 = some e3 ∧ asg e3 j ρ2 = some e4 ∧ P e4 := ⟨n1, n2, ⟨s, h0, h1⟩, ⟨s', h0', h1'⟩, e3, e4, h2, h3, h⟩
theorem x_dats {P : List D → Prop} {as : List AR} (h0 : dats as = some xs) (h1 : xs.length ≤ 1000000) (h : P xs) : ∃ ds, dats as = some ds ∧ ds.length ≤ 1000000 ∧ P ds := ⟨xs, h0, h1, h⟩
theorem x_callg {P : List D → Prop} {as : List AR} {n : Nat} {dds : List D} (h0 : dats as = some xs) (h1 : (xs ++ dds).length = n) (h : P xs) : ∃ ds, dats as = some ds ∧ (ds ++ dds).length = n ∧ P ds := ⟨xs, h0, h1, h⟩
theorem x_items {P : List D → Prop} {ρ : R} (h0 : see e ρ = some x) (h1 : x.items = some xs) (h : P xs) : ∃ d xs, see e ρ = some d ∧ d.items = some xs ∧ P xs := ⟨x, xs, h0, h1, h⟩
theorem x_tail {P : List D → Prop} {ρ : R} (h0 : see e ρ = some (.lst xs)) (h : P xs) : ∃ xs, see e ρ = some (.lst xs) ∧ P xs := ⟨xs, h0, h⟩
end
end L3

/-! L3: the def that fixes nested rows, over the heap -/
namespace L3
open PySem PySem.Spec PyProof.Rows L2
/-- the frozen part and the heap, no slots -/
structure RB (c : C0) (G H : Hp) : Prop where
  gh : Same G H
  keep : ∀ a o, c.H0 a = some o → H a = some o
  gsub : Same c.G0 G
  gnew : ∀ a, G a ≠ none → c.G0 a ≠ none ∨ c.H0 a = none
def Free (c : C0) (G : Hp) (a : Addr) : Prop := G a = none ∧ c.H0 a = none
section
variable {K : PySem.W.Frag} {c : C0} {G H G' H' : Hp} {a p : Addr} {o : HO} {vs : List V} {σ : St}
theorem RB.free0 (r : RB c G H) (h : H a = none) : Free c G a := ⟨r.gh.free h, by
  cases q : c.H0 a with
  | none => rfl
  | some o => rw [r.keep a o q] at h; cases h⟩
theorem RB.upd (r : RB c G H) (f : Free c G a) : RB c G (upd H a o) := ⟨fun b u e => by
    have : b ≠ a := fun z => by subst z; rw [f.1] at e; cases e
    rw [upd_ne this]; exact r.gh b u e, fun b u e => by
    have : b ≠ a := fun z => by subst z; rw [f.2] at e; cases e
    rw [upd_ne this]; exact r.keep b u e, r.gsub, r.gnew⟩
theorem RB.newT (r : RB c G H) (h : H p = none) : RB c (L2.upd G p o) (L2.upd H p o) ∧ Same G (L2.upd G p o) := by
  have f := r.free0 h
  have sg : Same G (L2.upd G p o) := fun b u e => by
    have : b ≠ p := fun z => by subst z; rw [f.1] at e; cases e
    rw [upd_ne this]; exact e
  refine ⟨⟨same_upd2 r.gh, fun b u e => ?_, r.gsub.trans sg, fun b e => ?_⟩, sg⟩
  · have : b ≠ p := fun z => by subst z; rw [f.2] at e; cases e
    rw [upd_ne this]; exact r.keep b u e
  · by_cases z : b = p
    · subst z; exact .inr f.2
    · rw [upd_ne z] at e; exact r.gnew b e
def noE : List S := [.no, .no, .no, .no, .no]
def oneE (d : D) : List S := [.no, .no, .no, .d d, .no]
theorem RB.rel (r : RB c G H) (hl : σ.length = 5) (hn : c.n = 5) (ha : ∀ i, c.ad i = none) {d : D} {v : V} (h3 : σ[3]? = some (some v)) (rd : RepD K G d v) : Rel K c G H σ (oneE d) where
  len := hl
  sl := fun i s h => by
    match i, h with
    | 0, h => cases h; trivial
    | 1, h => cases h; trivial
    | 2, h => cases h; trivial
    | 3, h => cases h; exact ⟨v, by rw [h3]; rfl, rd⟩
    | 4, h => cases h; trivial
    | n + 5, h => simp [oneE] at h
  gh := r.gh
  keep := fun a o h _ => r.keep a o h
  gsub := r.gsub
  gnew := r.gnew
  own := fun a ⟨i, s, h, o, _⟩ => by
    match i, h with
    | 0, h => cases h; cases o
    | 1, h => cases h; cases o
    | 2, h => cases h; cases o
    | 3, h => cases h; cases o
    | 4, h => cases h; cases o
    | n + 5, h => simp [oneE] at h
  inj := fun i j s t a h _ o _ _ _ => by
    match i, h with
    | 0, h => cases h; cases o
    | 1, h => cases h; cases o
    | 2, h => cases h; cases o
    | 3, h => cases h; cases o
    | 4, h => cases h; cases o
    | n + 5, h => simp [oneE] at h
  rfs := fun i a h => by rw [ha i] at h; cases h
  ln := hn.symm
theorem oneE_own {d : D} : ¬ OwnAt σ (oneE d) a := fun ⟨i, s, h, o, _⟩ => by
  match i, h with
  | 0, h => cases h; cases o
  | 1, h => cases h; cases o
  | 2, h => cases h; cases o
  | 3, h => cases h; cases o
  | 4, h => cases h; cases o
  | n + 5, h => simp [oneE] at h
/-- behind a step of data: all that stood stands, what was free is free -/
theorem RB.step {d : D} {e' : List S} (r : RB c G H) (st : Step K c σ G H (oneE d) G' H' e') : RB c G' H' ∧ Same H H' ∧ Same G G' ∧ ∀ a, H a ≠ none → Free c G a → Free c G' a := by
  have sh : Same H H' := fun a o h => st.fr a o h oneE_own
  refine ⟨⟨st.rel.gh, fun a o h => sh a o (r.keep a o h), st.rel.gsub, st.rel.gnew⟩, sh, st.sg, fun a h f => ⟨?_, f.2⟩⟩
  cases q : G' a with
  | none => rfl
  | some o =>
    rcases st.gn a (by rw [q]; simp) with z | z | z
    · exact absurd f.1 z
    · exact absurd z h
    · exact absurd z oneE_own
end
/-! ### the frames -/
/-- what is begun: (row, parts so far), the topmost first; the lists' addresses; the tuples -/
inductive Frs (K : PySem.W.Frag) (c : C0) (G H : Hp) : List Addr → List (D × List D) → List V → Prop
  | nil : Frs K c G H [] [] []
  | cons {t p : Addr} {one : D} {ov : V} {ps : List D} {ws : List V} {As : List Addr} {st : List (D × List D)} {vs : List V} : H t = some (.tup [ov, .ref p]) → H p = some (.lst ws) → RepD K G one ov → RepDs K G ps ws → Free c G t → Free c G p → p ∉ As → Frs K c G H As st vs →
    Frs K c G H (p :: As) ((one, ps) :: st) (.ref t :: vs)
section
variable {K : PySem.W.Frag} {c : C0} {G H G' H' : Hp} {As : List Addr} {st : List (D × List D)} {vs : List V}
theorem Frs.step (sh : Same H H') (sg : Same G G') (fr : ∀ a, H a ≠ none → Free c G a → Free c G' a) (f : Frs K c G H As st vs) : Frs K c G' H' As st vs := by
  induction f with
  | nil => exact .nil
  | cons h1 h2 h3 h4 h5 h6 h7 _ ih => exact .cons (sh _ _ h1) (sh _ _ h2) (h3.mono sg) (h4.mono sg) (fr _ (by rw [h1]; simp) h5) (fr _ (by rw [h2]; simp) h6) h7 ih
/-- a list that is no frame's is changed -/
theorem Frs.other {a : Addr} {o : HO} {ws : List V} (ha : H a = some (.lst ws)) (hn : a ∉ As) (f : Frs K c G H As st vs) : Frs K c G (upd H a o) As st vs := by
  induction f with
  | nil => exact .nil
  | @cons t p one ov ps ws' As st vs h1 h2 h3 h4 h5 h6 h7 _ ih =>
    have n1 : t ≠ a := fun z => by subst z; rw [ha] at h1; cases h1
    have n2 : p ≠ a := fun z => hn (by rw [z]; simp)
    exact .cons (by rw [upd_ne n1]; exact h1) (by rw [upd_ne n2]; exact h2) h3 h4 h5 h6 h7 (ih fun z => hn (by simp [z]))
theorem Frs.there {a : Addr} (f : Frs K c G H As st vs) (h : a ∈ As) : ∃ ws, H a = some (.lst ws) := by
  induction f with
  | nil => simp at h
  | cons h1 h2 _ _ _ _ _ _ ih =>
    rcases List.mem_cons.mp h with rfl | h
    · exact ⟨_, h2⟩
    · exact ih h
end

/-! ### the body as a term -/
def rLenF (K : PySem.W.Frag) : List V → Hp → VK → Prop := fun xs H Q => ∃ x n, xs = [x] ∧ LenV K x H n ∧ Q (.int n) H
def rTupF (K : PySem.W.Frag) : List V → Hp → VK → Prop := fun xs H Q => ∃ p ys, xs = [.ref p] ∧ ((SqL K H p ys ∧ ∀ l, H l = none → Q (.ref l) (upd H l (.tup ys))) ∨ (SqT K H p ys ∧ Q (.ref p) H))
def rIsF : R2 := fun x y H Q => y = .non ∧ Q (.bl (decide (x = .non))) H
def rGtF : R2 := rI0 fun i j => .bl (decide (j < i))
def rLtF : R2 := rI0 fun i j => .bl (decide (i < j))
/-- a list against the empty one -/
def rNeL : R2 := fun x y H Q => ∃ a b vs, x = .ref a ∧ y = .ref b ∧ H a = some (.lst vs) ∧ H b = some (.lst []) ∧ Q (.bl (!vs.isEmpty)) H
def rEqL : R2 := fun x y H Q => ∃ a b vs, x = .ref a ∧ y = .ref b ∧ H a = some (.lst vs) ∧ H b = some (.lst []) ∧ Q (.bl vs.isEmpty) H
theorem op_neL {X : Cx} (hu : X.A.units + 200 < cLine) : OpR X (compareOp .NotEq) rNeL := by
  intro pins s σ H x y v u Q I rx ry ⟨a, b, vs, e1, e2, ha, hb, q⟩
  subst e1 e2
  cases rx
  cases ry
  obtain ⟨its, r, pl, hz⟩ := I.list (.inl (.inl ha))
  obtain ⟨its2, r2, pl2, hz2⟩ := I.list (.inl (.inl hb))
  cases r2
  have e0 : its.toArray.size = vs.length := by rw [List.size_toArray]; exact r.length.symm
  cases vs with
  | nil =>
    have := PySem.SeqAt.RcNeAt.lists (A := X.A) (e := fun _ => true) pl.isList pl2.isList (by rw [e0]; rfl) (by omega) (fun j h1 h2 => absurd h2 (by simp))
    refine this X.prog X.w _ _ ?_
    have e3 : (!(List.range its.toArray.size).all fun _ => true) = false := by rw [e0]; rfl
    rw [e3]
    exact ⟨.bl false, H, I, rfl, q⟩
  | cons c r' =>
    have := PySem.SeqAt.RcNeAt.lists_lengths (A := X.A) pl.isList pl2.isList (by rw [e0]; simp) (by omega)
    exact this X.prog X.w _ _ ⟨.bl true, H, I, rfl, q⟩
theorem op_eqL {X : Cx} (hu : X.A.units + 200 < cLine) : OpR X (compareOp .Eq) rEqL := by
  intro pins s σ H x y v u Q I rx ry ⟨a, b, vs, e1, e2, ha, hb, q⟩
  subst e1 e2
  cases rx
  cases ry
  obtain ⟨its, r, pl, hz⟩ := I.list (.inl (.inl ha))
  obtain ⟨its2, r2, pl2, hz2⟩ := I.list (.inl (.inl hb))
  cases r2
  have e0 : its.toArray.size = vs.length := by rw [List.size_toArray]; exact r.length.symm
  cases vs with
  | nil =>
    have := PySem.SeqAt.RcAt.lists (A := X.A) (e := fun _ => true) pl.isList pl2.isList (by rw [e0]; rfl) (by omega) (fun j h1 h2 => absurd h2 (by simp))
    refine this X.prog X.w _ _ ?_
    have e3 : ((List.range its.toArray.size).all fun _ => true) = true := by rw [e0]; rfl
    rw [e3]
    exact ⟨.bl true, H, I, rfl, q⟩
  | cons c r' =>
    have := PySem.SeqAt.RcAt.lists_lengths (A := X.A) pl.isList pl2.isList (by rw [e0]; simp) (by omega)
    exact this X.prog X.w _ _ ⟨.bl false, H, I, rfl, q⟩
def fxCond (K : PySem.W.Frag) : TT := tTest (tOp rNeL (tVar 2) (tLst tNil))
def fxPop (K : PySem.W.Frag) : TS := tAsg (tBM0 K "list" rPop (tVar 2)) (gTup K 2 (gCons (gName 3) (gCons (gName 4) gNil)))
def fxNew (K : PySem.W.Frag) : TS := tSeq (tDrop (tBM K "list" rAppend (tVar 2) (tCons (tTup (tCons (tVar 3) (tCons (tLst tNil) tNil))) tNil)))
  (tSeq (tAsg (tC .non) (gName 1))
  (tSeq (tIfS (tTest (tOp rGtF (tCB (rLenF K) (tCons (tVar 3) tNil)) (tC (.int 0)))) (tSeq (tDrop (tBM K "list" rAppend (tVar 2) (tCons (tTup (tCons (tOp (rIx K) (tVar 3) (tC (.int 0))) (tCons (tC .non) tNil))) tNil))) tCont) tNext)
  (tSeq (tDrop (tBM0 K "list" rPop (tVar 2))) (tAsg (tTup tNil) (gName 1)))))
def fxMore (K : PySem.W.Frag) : TS := tSeq (tDrop (tBM K "list" rAppend (tVar 4) (tCons (tVar 1) tNil)))
  (tSeq (tIfS (tTest (tOp rLtF (tCB (rLenF K) (tCons (tVar 4) tNil)) (tCB (rLenF K) (tCons (tVar 3) tNil))))
     (tSeq (tDrop (tBM K "list" rAppend (tVar 2) (tCons (tTup (tCons (tVar 3) (tCons (tVar 4) tNil))) tNil)))
     (tSeq (tDrop (tBM K "list" rAppend (tVar 2) (tCons (tTup (tCons (tOp (rIx K) (tVar 3) (tCB (rLenF K) (tCons (tVar 4) tNil))) (tCons (tC .non) tNil))) tNil))) tCont)) tNext)
  (tAsg (tCB (rTupF K) (tCons (tVar 4) tNil)) (gName 1)))
def fxEnd (K : PySem.W.Frag) : TS := tIfS (tTest (tOp rEqL (tVar 2) (tLst tNil))) (tRet (tVar 1)) tNext
def fxBody (K : PySem.W.Frag) (rT : TT) : TS := tSeq (fxPop K) (tSeq (tIfS rT (tAsg (tVar 3) (gName 1)) (tIfS (tTest (tOp rIsF (tVar 4) (tC .non))) (fxNew K) (fxMore K))) (fxEnd K))
def tFixed (K : PySem.W.Frag) (rT : TT) : TS := tSeq (tPar 1 2 (tCons (tC .non) (tCons (tLst (tCons (tTup (tCons (tVar 0) (tCons (tC .non) tNil))) tNil)) tNil)))
  (tSeq (tWhile (fxCond K) (fxBody K rT)) (tRet (tVar 1)))

/-! ### what it gives -/
mutual
def fxD : D → D
  | .lst xs => .tup (fxDs xs)
  | .tup xs => .tup (fxDs xs)
  | d => d
def fxDs : List D → List D
  | [] => []
  | x :: r => fxD x :: fxDs r
end
mutual
def wt : D → Nat
  | .lst xs => wts xs + 3
  | .tup xs => wts xs + 3
  | _ => 3
def wts : List D → Nat
  | [] => 0
  | x :: r => wt x + 1 + wts r
end
theorem wts_drop : ∀ (xs : List D) (i : Nat) (x : D), xs[i]? = some x → wts (xs.drop i) = wt x + 1 + wts (xs.drop (i + 1))
  | [], _, _, h => by simp at h
  | y :: r, 0, x, h => by simp at h; subst h; rfl
  | y :: r, i + 1, x, h => by simpa using wts_drop r i x (by simpa using h)
theorem fxDs_drop : ∀ (xs : List D) (i : Nat) (x : D), xs[i]? = some x → fxDs (xs.drop i) = fxD x :: fxDs (xs.drop (i + 1))
  | [], _, _, h => by simp at h
  | y :: r, 0, x, h => by simp at h; subst h; rfl
  | y :: r, i + 1, x, h => by simpa using fxDs_drop r i x (by simpa using h)
theorem wts_len : ∀ xs : List D, xs.length ≤ wts xs
  | [] => Nat.le_refl _
  | x :: r => by simp only [List.length_cons, wts]; have := wts_len r; omega
def rowI : D → Option (List D)
  | .lst xs => some xs
  | .tup xs => some xs
  | _ => none
def rowB (d : D) : Bool := (rowI d).isSome
theorem fx_leaf {d : D} (h : rowI d = none) : fxD d = d := by cases d <;> first | rfl | cases h
theorem fx_row {d : D} {xs : List D} (h : rowI d = some xs) : fxD d = .tup (fxDs xs) := by cases d <;> first | (cases h; rfl) | cases h
theorem wt_row {d : D} {xs : List D} (h : rowI d = some xs) : wt d = wts xs + 3 := by cases d <;> first | (cases h; rfl) | cases h
theorem wt_pos (d : D) : 3 ≤ wt d := by cases d <;> simp [wt]
def itsD (d : D) : List D := (rowI d).getD []
def fw (q : D × List D) : Nat := 1 + wts ((itsD q.1).drop (q.2.length + 1))
def fws : List (D × List D) → Nat
  | [] => 0
  | q :: r => fw q + fws r
theorem fws_len : ∀ st : List (D × List D), st.length ≤ fws st
  | [] => Nat.le_refl _
  | q :: r => by simp only [List.length_cons, fws, fw]; have := fws_len r; omega
def res : List (D × List D) → D → D
  | [], v => v
  | (one, ps) :: st, v => res st (.tup (ps ++ v :: fxDs ((itsD one).drop (ps.length + 1))))
structure okQ (q : D × List D) : Prop where
  noi : q.1.noi = true
  ex : ∃ xs, rowI q.1 = some xs ∧ q.2.length < xs.length ∧ xs.length ≤ 1000000
/-- the state at the loop's head: a datum is to be fixed, or one was -/
structure LH (K : PySem.W.Frag) (c : C0) (x : D) (m : Nat) (σ : St) (H : Hp) (G : Hp) (L : Addr) (As : List Addr) (st : List (D × List D)) (vs : List V) : Prop where
  rb : RB c G H
  len : σ.length = 5
  sL : σ[2]? = some (some (.ref L))
  fL : Free c G L
  nL : L ∉ As
  fr : Frs K c G H As st vs
  ok : ∀ q ∈ st, okQ q
  small : m ≤ 1000000
inductive LHm (K : PySem.W.Frag) (c : C0) (x : D) (m : Nat) (σ : St) (H : Hp) : Prop
  | ev {G : Hp} {L : Addr} {As : List Addr} {st : List (D × List D)} {vs : List V} {d : D} {v : V} : LH K c x m σ H G L As st vs → RepD K G (.tup [d, .non]) v → d.noi = true → H L = some (.lst (vs.reverse ++ [v])) → wt d + fws st ≤ m → res st (fxD d) = fxD x → LHm K c x m σ H
  | rt {G : Hp} {L : Addr} {As : List Addr} {st : List (D × List D)} {vs : List V} {d : D} {v : V} : LH K c x m σ H G L As st vs → RepD K G d v → σ[1]? = some (some v) → st ≠ [] → H L = some (.lst vs.reverse) → fws st ≤ m → res st d = fxD x → LHm K c x m σ H
end L3

/-! L3: the loop of the def that fixes rows -/
namespace L3
open PySem PySem.Spec PyProof.Rows L2
section
variable {K : PySem.W.Frag} {c : C0} {x : D} {m m' : Nat} {σ σ' : St} {H G : Hp} {L p : Addr} {As : List Addr} {st : List (D × List D)} {vs xs : List V} {o : HO} {v v1 v2 : V}
theorem LH.fresh (h : LH K c x m σ H G L As st vs) (hp : H p = none) : LH K c x m σ (upd H p o) G L As st vs :=
  ⟨h.rb.upd (h.rb.free0 hp), h.len, h.sL, h.fL, h.nL, h.fr.step (same_upd hp) (Same.refl _) (fun _ _ f => f), h.ok, h.small⟩
/-- the list of what is open is stored anew -/
theorem LH.line (h : LH K c x m σ H G L As st vs) (hL : H L = some (.lst xs)) : LH K c x m σ (upd H L o) G L As st vs :=
  ⟨h.rb.upd h.fL, h.len, h.sL, h.fL, h.nL, h.fr.other hL h.nL, h.ok, h.small⟩
theorem LH.locs (h : LH K c x m σ H G L As st vs) (hl : σ'.length = 5) (h2 : σ'[2]? = σ[2]?) : LH K c x m σ' H G L As st vs :=
  ⟨h.rb, hl, by rw [h2]; exact h.sL, h.fL, h.nL, h.fr, h.ok, h.small⟩
theorem LH.less (h : LH K c x m σ H G L As st vs) (hm : m' ≤ m) : LH K c x m' σ H G L As st vs := ⟨h.rb, h.len, h.sL, h.fL, h.nL, h.fr, h.ok, Nat.le_trans hm h.small⟩
theorem fx_cond {Q : Bool → Hp → Prop} (sL : σ[2]? = some (some (.ref L))) (hL : H L = some (.lst xs)) (hq : ∀ p, H p = none → Q (!xs.isEmpty) (upd H p (.lst []))) : fxCond K σ H Q := by
  refine ⟨.ref L, sL, Nat.zero_le _, fun p hp => ⟨L, p, xs, rfl, rfl, ?_, upd_same, _, rfl, hq p hp⟩⟩
  rw [upd_ne (ne_of_none hL hp)]; exact hL
theorem fx_empty {Q : Bool → Hp → Prop} (sL : σ[2]? = some (some (.ref L))) (hL : H L = some (.lst xs)) (hq : ∀ p, H p = none → Q xs.isEmpty (upd H p (.lst []))) : tTest (tOp rEqL (tVar 2) (tLst tNil)) σ H Q := by
  refine ⟨.ref L, sL, Nat.zero_le _, fun p hp => ⟨L, p, xs, rfl, rfl, ?_, upd_same, _, rfl, hq p hp⟩⟩
  rw [upd_ne (ne_of_none hL hp)]; exact hL
theorem fx_pop {D : Ends} {a : Addr} (sL : σ[2]? = some (some (.ref L))) (hL : H L = some (.lst (xs ++ [.ref a]))) (ha : SqT K (upd H L (.lst xs)) a [v1, v2]) (hq : D.nx ((σ.set 3 (some v1)).set 4 (some v2)) (upd H L (.lst xs))) : fxPop K D σ H := by
  refine ⟨.ref L, sL, .inl ⟨rfl, _, .inl (.inl hL)⟩, L, xs ++ [.ref a], .ref a, rfl, rfl, hL, by simp, ?_⟩
  rw [List.dropLast_concat]
  exact ⟨a, [v1, v2], rfl, ha, rfl, v1, [v2], rfl, v2, [], rfl, rfl, hq⟩
/-- the row test -/
def fxRow (K : PySem.W.Frag) (c : C0) (W : WX) (spR : SpD) : TT := liftT K c W (dNot (dB (dCall 1 spR [] (dCons (dVar 3) dNil))))
theorem fx_row_test {W : WX} {spR : SpD} (hrow : ∀ (d : D) (Qd : D → List S → Prop) (Xd : XV → List S → Prop), d.isIns = false → Qd (.bl (rowB d)) [.d d] → spR [.d d] Qd Xd) (hn : c.n = 5) (hc : ∀ i, c.ad i = none) {d : D} {ov : V} {Q : Bool → Hp → Prop}
    (h : LH K c x m σ H G L As st vs) (h3 : σ[3]? = some (some ov)) (rd : RepD K G d ov) (hi : d.isIns = false) (hL : H L ≠ none)
    (hq : ∀ (G' H' : Hp), LH K c x m σ H' G' L As st vs → Same H H' → Same G G' → (∀ a, H a ≠ none → Free c G a → Free c G' a) → Q (!rowB d) H') : fxRow K c W spR σ H Q := by
  have rel := h.rb.rel h.len hn hc h3 rd
  refine ⟨G, oneE d, fun b e' => b = !rowB d, fun _ _ => False, rel, ?_, fun b e' G' H' stp e => ?_, fun _ _ _ _ _ _ _ _ z => z.elim⟩
  · refine x_not (x_b (x_call (x_cons (x_var (s := .d d) rfl ?_))))
    refine ⟨d, rfl, x_nil ?_⟩
    exact ⟨[d], rfl, rfl, hrow d _ _ hi ⟨rowB d, rfl, rfl⟩⟩
  · subst e
    obtain ⟨r', sh, sg, fr⟩ := h.rb.step stp
    refine hq G' H' ⟨r', h.len, h.sL, fr _ hL h.fL, h.nL, h.fr.step sh sg fr, h.ok, h.small⟩ sh sg fr
theorem fx_done {Dx : Ends} {d : D} {v : V} (hD : ∀ (v : V) (G H : Hp), RB c G H → RepD K G (fxD x) v → Dx.rt v H) (h : LH K c x m σ H G L As st vs) (hm : fws st ≤ m) (rd : RepD K G d v) (h1 : σ[1]? = some (some v)) (hL : H L = some (.lst vs.reverse)) (hr : res st d = fxD x)
    (hvs : vs.length = st.length) (hnx : ∀ σ' H', LHm K c x m σ' H' → Dx.nx σ' H') : fxEnd K Dx σ H := by
  refine fx_empty h.sL hL fun p hp => ?_
  have h' := h.fresh (o := .lst []) hp
  have hL' : upd H p (.lst []) L = some (.lst vs.reverse) := by rw [upd_ne (ne_of_none hL hp)]; exact hL
  cases st with
  | nil =>
    have : vs = [] := List.eq_nil_of_length_eq_zero hvs
    subst this
    exact ⟨v, h1, hD v G _ h'.rb (by rw [← hr]; exact rd)⟩
  | cons q r =>
    cases vs with
    | nil => cases hvs
    | cons w ws =>
      have e : (w :: ws).reverse.isEmpty = false := by simp
      rw [e]
      show Dx.nx σ _
      exact hnx _ _ (.rt h' rd h1 (by simp) hL' hm hr)
theorem rowLen {d : D} {ov : V} {ys : List D} (rd : RepD K G d ov) (hr : rowI d = some ys) (sg : Same G H) : LenV K ov H ys.length := by
  cases rd with
  | lst h1 h2 => cases hr; exact .inl ⟨_, .inl (.inl (sg _ _ h1)), h2.length⟩
  | tup h1 h2 => cases hr; exact .inr ⟨_, Same.seqT sg h1, h2.length⟩
  | _ => cases hr
theorem rowAt {d y : D} {ov : V} {ys : List D} {i : Nat} {Q : VK} (rd : RepD K G d ov) (hr : rowI d = some ys) (sg : Same G H) (hy : ys[i]? = some y) (hq : ∀ yv, RepD K G y yv → Q yv H) : rIx K ov (.int (i : Nat)) H Q := by
  have hi : i < ys.length := (List.getElem?_eq_some_iff.mp hy).1
  have at_ : ∀ ws : List V, RepDs K G ys ws → ∃ yv, atI ws (i : Nat) = some yv ∧ RepD K G y yv := fun ws rw' => by
    obtain ⟨yv, h1, h2⟩ := rw'.get' hy
    refine ⟨yv, ?_, h2⟩
    unfold atI ixN
    rw [if_pos (by omega), if_pos (by rw [← rw'.length]; omega)]
    simpa using h1
  cases rd with
  | lst h1 h2 =>
    cases hr
    obtain ⟨yv, e1, e2⟩ := at_ _ h2
    exact .inl ⟨_, _, _, yv, rfl, rfl, .inl (.inl (sg _ _ h1)), e1, hq yv e2⟩
  | tup h1 h2 =>
    cases hr
    obtain ⟨yv, e1, e2⟩ := at_ _ h2
    exact .inr (.inl ⟨_, _, _, yv, rfl, rfl, Same.seqT sg h1, e1, hq yv e2⟩)
  | _ => cases hr
/-- a row is begun -/
theorem LH.push {d : D} {ov : V} {ys : List D} {t q : Addr} (h : LH K c x m σ H G L As st vs) (hL : H L = some (.lst xs)) (rd : RepD K G d ov) (hr : rowI d = some ys) (hd : d.noi = true) (hne : ys ≠ []) (hl : ys.length ≤ 1000000) (hq : H q = none) (ht : upd H q (.lst []) t = none) :
    LH K c x m σ (upd (upd (upd H q (.lst [])) t (.tup [ov, .ref q])) L o) G L (q :: As) ((d, []) :: st) (.ref t :: vs) := by
  have h1 := h.fresh (o := .lst []) hq
  have h2 := h1.fresh (o := .tup [ov, .ref q]) ht
  have hL2 : upd (upd H q (.lst [])) t (.tup [ov, .ref q]) L = some (.lst xs) := by
    have e1 : upd H q (.lst []) L = some (.lst xs) := by rw [upd_ne (ne_of_none hL hq)]; exact hL
    rw [upd_ne (ne_of_none e1 ht)]; exact e1
  have hq0 : upd H q (.lst []) q = some (.lst []) := upd_same
  have hqn : q ∉ As := fun z => by
    obtain ⟨ws, hw⟩ := h.fr.there z
    rw [hq] at hw; cases hw
  have hqL : q ≠ L := fun z => by subst z; rw [hq] at hL; cases hL
  have hqt : q ≠ t := fun z => by subst z; rw [hq0] at ht; cases ht
  have fr' : Frs K c G (upd (upd H q (.lst [])) t (.tup [ov, .ref q])) (q :: As) ((d, []) :: st) (.ref t :: vs) :=
    .cons upd_same (by rw [upd_ne hqt]; exact hq0) rd .nil (h1.rb.free0 ht) (h.rb.free0 hq) hqn h2.fr
  have hLn : L ∉ q :: As := fun z => by
    rcases List.mem_cons.mp z with z | z
    · exact hqL z.symm
    · exact h.nL z
  refine ⟨h2.rb.upd h.fL, h.len, h.sL, h.fL, hLn, fr'.other hL2 hLn, fun z hz => ?_, h.small⟩
  rcases List.mem_cons.mp hz with rfl | hz
  · exact ⟨hd, ys, hr, by simp only [List.length_nil]; exact List.length_pos_iff.mpr hne, hl⟩
  · exact h.ok z hz
theorem LH.newT {z : Addr} {ws : List V} {ds : List D} (h : LH K c x m σ H G L As st vs) (hz : H z = none) (hL : H L ≠ none) (rd : RepDs K G ds ws) : LH K c x m σ (upd H z (.tup ws)) (upd G z (.tup ws)) L As st vs ∧ RepD K (upd G z (.tup ws)) (.tup ds) (.ref z) ∧ Same G (upd G z (.tup ws)) := by
  obtain ⟨r', sg⟩ := h.rb.newT (o := .tup ws) hz
  have fr : ∀ a, H a ≠ none → Free c G a → Free c (upd G z (.tup ws)) a := fun a ha f => ⟨by
    have : a ≠ z := fun e => by subst e; exact ha hz
    rw [upd_ne this]; exact f.1, f.2⟩
  exact ⟨⟨r', h.len, h.sL, fr _ hL h.fL, h.nL, h.fr.step (same_upd hz) sg fr, h.ok, h.small⟩, .tup (.inl (.inl upd_same)) (rd.mono sg), sg⟩
theorem set1 (hl : σ.length = 5) : (σ.set 1 (some v))[1]? = some (some v) := List.getElem?_set_self (by omega)
theorem fx_new {Dx : Ends} {d : D} {ov : V} {ys : List D} (h : LH K c x m σ H G L As st vs) (hL : H L = some (.lst vs.reverse)) (h3 : σ[3]? = some (some ov)) (rd : RepD K G d ov) (hr : rowI d = some ys) (hd : d.noi = true) (hl : ys.length ≤ 1000000) (hvl : vs.length + 2 < sizeLine)
    (hnil : ys = [] → ∀ σ' H' G' v, LH K c x m σ' H' G' L As st vs → H' L = some (.lst vs.reverse) → RepD K G' (.tup []) v → σ'[1]? = some (some v) → Dx.nx σ' H')
    (hcons : ∀ y r, ys = y :: r → ∀ σ' H' G' v q t, LH K c x m σ' H' G' L (q :: As) ((d, []) :: st) (.ref t :: vs) → RepD K G' (.tup [y, .non]) v → H' L = some (.lst ((V.ref t :: vs).reverse ++ [v])) → Dx.ct σ' H') : fxNew K Dx σ H := by
  have hvr : vs.reverse.length = vs.length := List.length_reverse
  refine ⟨.ref L, h.sL, .inl ⟨rfl, _, .inl (.inl hL)⟩, ov, h3, Nat.zero_le _, fun q hq => ⟨by show 2 ≤ _; exact Nat.le_trans (by decide) mil, fun t ht => ?_⟩⟩
  have h1 := h.fresh (o := .lst []) hq
  have h2 := h1.fresh (o := .tup [ov, .ref q]) ht
  have hL1 : upd H q (.lst []) L = some (.lst vs.reverse) := by rw [upd_ne (ne_of_none hL hq)]; exact hL
  have hL2 : upd (upd H q (.lst [])) t (.tup [ov, .ref q]) L = some (.lst vs.reverse) := by rw [upd_ne (ne_of_none hL1 ht)]; exact hL1
  refine ⟨L, vs.reverse, .ref t, rfl, rfl, hL2, by omega, ?_⟩
  generalize hH3 : upd (upd (upd H q (.lst [])) t (.tup [ov, .ref q])) L (.lst (vs.reverse ++ [.ref t])) = H3
  have hL3 : H3 L = some (.lst (vs.reverse ++ [.ref t])) := by rw [← hH3]; exact upd_same
  have l3 : LH K c x m σ H3 G L As st vs := by rw [← hH3]; exact h2.line hL2
  have s1l : (σ.set 1 (some V.non)).length = 5 := by rw [List.length_set]; exact h.len
  have l3' : LH K c x m (σ.set 1 (some .non)) H3 G L As st vs := l3.locs s1l (by rw [List.getElem?_set_ne (by decide)])
  have h3' : (σ.set 1 (some V.non))[3]? = some (some ov) := by rw [List.getElem?_set_ne (by decide)]; exact h3
  refine ⟨ov, h3', ov, ys.length, rfl, rowLen rd hr l3.rb.gh, _, _, rfl, rfl, _, rfl, ?_⟩
  cases ys with
  | nil =>
    refine ⟨.ref L, l3'.sL, .inl ⟨rfl, _, .inl (.inl hL3)⟩, L, _, .ref t, rfl, rfl, hL3, by simp, ?_⟩
    rw [List.dropLast_concat]
    refine ⟨Nat.zero_le _, fun z hz => ?_⟩
    have l4 := l3'.line (o := .lst vs.reverse) hL3
    have hL4 : upd H3 L (.lst vs.reverse) L = some (.lst vs.reverse) := upd_same
    obtain ⟨l5, rt, _⟩ := l4.newT (ds := []) hz (by rw [hL4]; simp) .nil
    refine hnil rfl _ _ _ _ (l5.locs (by rw [List.length_set]; exact s1l) (by rw [List.getElem?_set_ne (by decide)])) ?_ rt (set1 s1l)
    rw [upd_ne (ne_of_none hL4 hz)]; exact hL4
  | cons y r =>
    have l6 : LH K c x m σ H3 G L (q :: As) ((d, []) :: st) (.ref t :: vs) := by
      rw [← hH3]; exact h.push hL rd hr hd (by simp) hl hq ht
    have l6' : LH K c x m (σ.set 1 (some .non)) H3 G L (q :: As) ((d, []) :: st) (.ref t :: vs) := l6.locs s1l (by rw [List.getElem?_set_ne (by decide)])
    have e0 : (decide ((0 : Int) < ((y :: r).length : Nat))) = true := by simp
    rw [e0]
    refine ⟨.ref L, l6'.sL, .inl ⟨rfl, _, .inl (.inl hL3)⟩, ov, h3', rowAt (i := 0) rd hr l6'.rb.gh rfl fun yv ry => ?_⟩
    refine ⟨by show 2 ≤ _; exact Nat.le_trans (by decide) mil, fun z hz => ?_⟩
    obtain ⟨l7, rt, _⟩ := l6'.newT (ds := [y, .non]) hz (by rw [hL3]; simp) (.cons ry (.cons .non .nil))
    have hL7 : upd H3 z (.tup [yv, .non]) L = some (.lst (vs.reverse ++ [.ref t])) := by rw [upd_ne (ne_of_none hL3 hz)]; exact hL3
    refine ⟨L, vs.reverse ++ [.ref t], .ref z, rfl, rfl, hL7, by simp; omega, ?_⟩
    exact hcons y r rfl _ _ _ _ q t (l7.line hL7) rt (by rw [upd_same]; simp)
theorem LH.other {ws : List V} (h : LH K c x m σ H G L As st vs) (hp : H p = some (.lst ws)) (fp : Free c G p) (np : p ∉ As) : LH K c x m σ (upd H p o) G L As st vs :=
  ⟨h.rb.upd fp, h.len, h.sL, h.fL, h.nL, h.fr.other hp np, h.ok, h.small⟩
theorem fx_more {Dx : Ends} {one d : D} {ov dv : V} {ps ys : List D} {ws : List V} (h : LH K c x m σ H G L As st vs) (hp : H p = some (.lst ws)) (fp : Free c G p) (np : p ∉ As) (npL : p ≠ L) (hL : H L = some (.lst vs.reverse)) (h3 : σ[3]? = some (some ov)) (h4 : σ[4]? = some (some (.ref p))) (h1 : σ[1]? = some (some dv))
    (rd : RepD K G d dv) (ro : RepD K G one ov) (rp : RepDs K G ps ws) (hr : rowI one = some ys) (hno : one.noi = true) (hlt : ps.length < ys.length) (hl : ys.length ≤ 1000000) (hvl : vs.length + 2 < sizeLine)
    (hend : ps.length + 1 = ys.length → ∀ σ' H' G' v, LH K c x m σ' H' G' L As st vs → H' L = some (.lst vs.reverse) → RepD K G' (.tup (ps ++ [d])) v → σ'[1]? = some (some v) → Dx.nx σ' H')
    (hnext : ∀ y, ys[ps.length + 1]? = some y → ∀ σ' H' G' v t, LH K c x m σ' H' G' L (p :: As) ((one, ps ++ [d]) :: st) (.ref t :: vs) → RepD K G' (.tup [y, .non]) v → H' L = some (.lst ((V.ref t :: vs).reverse ++ [v])) → Dx.ct σ' H') : fxMore K Dx σ H := by
  have hvr : vs.reverse.length = vs.length := List.length_reverse
  have lp := rp.length
  have ml := mil
  refine ⟨.ref p, h4, .inl ⟨rfl, _, .inl (.inl hp)⟩, dv, h1, p, ws, dv, rfl, rfl, hp, by omega, ?_⟩
  have l1 := h.other (o := .lst (ws ++ [dv])) hp fp np
  have hp1 : upd H p (.lst (ws ++ [dv])) p = some (.lst (ws ++ [dv])) := upd_same
  have hL1 : upd H p (.lst (ws ++ [dv])) L = some (.lst vs.reverse) := by rw [upd_ne fun e => npL e.symm]; exact hL
  have rp1 : RepDs K G (ps ++ [d]) (ws ++ [dv]) := rp.append (.cons rd .nil)
  have lp1 : (ws ++ [dv]).length = ps.length + 1 := by rw [List.length_append, ← lp]; rfl
  generalize upd H p (.lst (ws ++ [dv])) = H1 at l1 hp1 hL1
  refine ⟨.ref p, h4, .ref p, ps.length + 1, rfl, .inl ⟨_, .inl (.inl hp1), lp1.symm⟩, ov, h3, ov, ys.length, rfl, rowLen ro hr l1.rb.gh, _, _, rfl, rfl, _, rfl, ?_⟩
  by_cases hc : ps.length + 1 < ys.length
  · obtain ⟨y, hy⟩ : ∃ y, ys[ps.length + 1]? = some y := ⟨_, List.getElem?_eq_getElem hc⟩
    rw [decide_eq_true (show (((ps.length + 1 : Nat)) : Int) < (ys.length : Nat) by omega)]
    refine ⟨.ref L, l1.sL, .inl ⟨rfl, _, .inl (.inl hL1)⟩, ov, h3, .ref p, h4, by show 2 ≤ _; exact Nat.le_trans (by decide) mil, fun t ht => ?_⟩
    have l2 := l1.fresh (o := .tup [ov, .ref p]) ht
    have hL2 : upd H1 t (.tup [ov, .ref p]) L = some (.lst vs.reverse) := by rw [upd_ne (ne_of_none hL1 ht)]; exact hL1
    have hp2 : upd H1 t (.tup [ov, .ref p]) p = some (.lst (ws ++ [dv])) := by rw [upd_ne (ne_of_none hp1 ht)]; exact hp1
    have fr2 : Frs K c G (upd H1 t (.tup [ov, .ref p])) (p :: As) ((one, ps ++ [d]) :: st) (.ref t :: vs) := .cons upd_same hp2 ro rp1 (l1.rb.free0 ht) fp np l2.fr
    have hLn : L ∉ p :: As := fun z => by
      rcases List.mem_cons.mp z with z | z
      · exact npL z.symm
      · exact l1.nL z
    have l3 : LH K c x m σ (upd H1 t (.tup [ov, .ref p])) G L (p :: As) ((one, ps ++ [d]) :: st) (.ref t :: vs) := ⟨l2.rb, l2.len, l2.sL, l2.fL, hLn, fr2, fun z hz => by
      rcases List.mem_cons.mp hz with rfl | hz
      · exact ⟨hno, ys, hr, by simpa using hc, hl⟩
      · exact l1.ok z hz, l2.small⟩
    refine ⟨L, vs.reverse, .ref t, rfl, rfl, hL2, by omega, ?_⟩
    have l4 := l3.line (o := .lst (vs.reverse ++ [.ref t])) hL2
    have hp4 : upd (upd H1 t (.tup [ov, .ref p])) L (.lst (vs.reverse ++ [.ref t])) p = some (.lst (ws ++ [dv])) := by rw [upd_ne npL]; exact hp2
    have hL4 : upd (upd H1 t (.tup [ov, .ref p])) L (.lst (vs.reverse ++ [.ref t])) L = some (.lst (vs.reverse ++ [.ref t])) := upd_same
    generalize upd (upd H1 t (.tup [ov, .ref p])) L (.lst (vs.reverse ++ [.ref t])) = H4 at l4 hp4 hL4
    refine ⟨.ref L, l4.sL, .inl ⟨rfl, _, .inl (.inl hL4)⟩, ov, h3, .ref p, h4, .ref p, ps.length + 1, rfl, .inl ⟨_, .inl (.inl hp4), lp1.symm⟩, rowAt ro hr l4.rb.gh hy fun yv ry => ?_⟩
    refine ⟨by show 2 ≤ _; exact Nat.le_trans (by decide) mil, fun z hz => ?_⟩
    obtain ⟨l7, rt, _⟩ := l4.newT (ds := [y, .non]) hz (by rw [hL4]; simp) (.cons ry (.cons .non .nil))
    have hL7 : upd H4 z (.tup [yv, .non]) L = some (.lst (vs.reverse ++ [.ref t])) := by rw [upd_ne (ne_of_none hL4 hz)]; exact hL4
    refine ⟨L, vs.reverse ++ [.ref t], .ref z, rfl, rfl, hL7, by simp; omega, ?_⟩
    exact hnext y hy _ _ _ _ t (l7.line hL7) rt (by rw [upd_same]; simp)
  · rw [decide_eq_false (show ¬ (((ps.length + 1 : Nat)) : Int) < (ys.length : Nat) by omega)]
    refine ⟨.ref p, h4, p, ws ++ [dv], rfl, .inl ⟨.inl (.inl hp1), fun z hz => ?_⟩⟩
    obtain ⟨l5, rt, _⟩ := l1.newT hz (by rw [hL1]; simp) rp1
    refine hend (by omega) _ _ _ _ (l5.locs (by rw [List.length_set]; exact h.len) (by rw [List.getElem?_set_ne (by decide)])) ?_ rt (set1 h.len)
    rw [upd_ne (ne_of_none hL1 hz)]; exact hL1
end
end L3

/-! L3: the loop's turn; the def -/
namespace L3
open PySem PySem.Spec PyProof.Rows L2
section
variable {K : PySem.W.Frag} {c : C0} {x : D} {m : Nat} {σ : St} {H : Hp} {W : WX} {spR : SpD}
theorem frs_len {G H : Hp} {As : List Addr} {st : List (D × List D)} {vs : List V} (f : Frs K c G H As st vs) : vs.length = st.length := by
  induction f with
  | nil => rfl
  | cons _ _ _ _ _ _ _ _ ih => simp [ih]
theorem fx_step (hrow : ∀ (d : D) (Qd : D → List S → Prop) (Xd : XV → List S → Prop), d.isIns = false → Qd (.bl (rowB d)) [.d d] → spR [.d d] Qd Xd) (hins : ∀ d : D, d.noi = true → d.isIns = false) (hn : c.n = 5) (hc : ∀ i, c.ad i = none) {Dx : Ends} (hD : ∀ (v : V) (G H : Hp), RB c G H → RepD K G (fxD x) v → Dx.rt v H)
    (hsub : ∀ (d y : D) (ys : List D), d.noi = true → rowI d = some ys → y ∈ ys → y.noi = true) (h : LHm K c x m σ H) :
    fxCond K σ H fun b H1 => if b = true then ∃ N : St → Hp → Prop, (∀ σ' H', N σ' H' → ∃ m', m' < m ∧ LHm K c x m' σ' H') ∧ fxBody K (fxRow K c W spR) { Dx with nx := N, ct := N, bk := Dx.nx } σ H1 else Dx.nx σ H1 := by
  have ml := mil
  cases h with
  | @ev G L As st vs d v h rt hno hL hm hres =>
    refine fx_cond h.sL hL fun p hp => ?_
    have e0 : (!(vs.reverse ++ [v]).isEmpty) = true := by simp
    rw [e0, if_pos rfl]
    refine ⟨fun σ' H' => ∃ m', m' < m ∧ LHm K c x m' σ' H', fun _ _ z => z, ?_⟩
    have h1 := h.fresh (o := .lst []) hp
    have hL1 : upd H p (.lst []) L = some (.lst (vs.reverse ++ [v])) := by rw [upd_ne (ne_of_none hL hp)]; exact hL
    generalize upd H p (.lst []) = H1 at h1 hL1
    cases rt with
    | @tup a ws _ k1 k2 =>
      cases k2 with
      | @cons _ ov _ _ rd k3 =>
        cases k3 with
        | cons rn k4 =>
          cases rn
          cases k4
          have h2 := h1.line (o := .lst vs.reverse) hL1
          refine fx_pop h1.sL hL1 (Same.seqT h2.rb.gh k1) ?_
          have hl5 : ((σ.set 3 (some ov)).set 4 (some V.non)).length = 5 := by rw [List.length_set, List.length_set]; exact h.len
          have s3 : ((σ.set 3 (some ov)).set 4 (some V.non))[3]? = some (some ov) := by rw [List.getElem?_set_ne (by decide)]; exact List.getElem?_set_self (by have := h.len; omega)
          have s4 : ((σ.set 3 (some ov)).set 4 (some V.non))[4]? = some (some .non) := List.getElem?_set_self (by rw [List.length_set]; have := h.len; omega)
          have h3 : LH K c x m ((σ.set 3 (some ov)).set 4 (some .non)) (upd H1 L (.lst vs.reverse)) G L As st vs := h2.locs hl5 (by rw [List.getElem?_set_ne (by decide), List.getElem?_set_ne (by decide)])
          have hL3 : upd H1 L (.lst vs.reverse) L = some (.lst vs.reverse) := upd_same
          generalize (σ.set 3 (some ov)).set 4 (some V.non) = σ1 at hl5 s3 s4 h3
          refine fx_row_test hrow hn hc h3 s3 rd (hins d hno) (by rw [hL3]; simp) fun G' H' h4 sh sg frr => ?_
          have hL4 : H' L = some (.lst vs.reverse) := sh _ _ hL3
          have rd4 : RepD K G' d ov := rd.mono sg
          have hvl := frs_len h.fr
          have hfl := fws_len st
          have hsm := h.small
          have hwp := wt_pos d
          cases hr : rowI d with
          | none =>
            have e1 : (!rowB d) = true := by simp [rowB, hr]
            rw [e1, if_pos rfl]
            refine ⟨ov, s3, ?_⟩
            refine fx_done hD ((h4.locs (σ' := σ1.set 1 (some ov)) (by rw [List.length_set]; exact hl5) (by rw [List.getElem?_set_ne (by decide)])).less (m' := m - 1) (by omega)) (by omega) rd4 (set1 hl5) hL4 (by rw [← hres, fx_leaf hr]) hvl fun σ' H' z => ⟨m - 1, by omega, z⟩
          | some ys =>
            have e1 : (!rowB d) = false := by simp [rowB, hr]
            have hwr := wt_row hr
            have hyl := wts_len ys
            rw [e1, if_neg Bool.false_ne_true]
            refine ⟨.non, s4, rfl, true, rfl, ?_⟩
            show fxNew K _ σ1 H'
            refine fx_new h4 hL4 s3 rd4 hr hno (by omega) (by omega) (fun he σ' H' G' v l hl' rv s1 => ?_) (fun y r he σ' H' G' v q t l rv hl' => ?_)
            · subst he
              refine fx_done hD (l.less (m' := m - 1) (by omega)) (by omega) rv s1 hl' (by rw [← hres, fx_row hr]; rfl) hvl fun σ' H' z => ⟨m - 1, by omega, z⟩
            · subst he
              have hi : itsD d = y :: r := by unfold itsD; rw [hr]; rfl
              refine ⟨m - 1, by omega, .ev (l.less (by omega)) rv (hsub d y _ hno hr (by simp)) hl' ?_ ?_⟩
              · simp only [fws, fw, hi, List.length_nil, List.drop_succ_cons, List.drop_zero]
                simp only [wts] at hwr
                omega
              · rw [← hres, fx_row hr]
                simp [res, hi, fxDs]
  | @rt G L As st vs d v h rd s1 hne hL hm hres =>
    have hvl := frs_len h.fr
    have hfl := fws_len st
    have hsm := h.small
    obtain ⟨hrb, hlen, hsL, hfL, hnL, hfr, hok, _⟩ := id h
    cases hfr with
    | nil => exact absurd rfl hne
    | @cons t p one ov ps ws As st vs f1 f2 f3 f4 f5 f6 f7 f8 =>
      have hL0 : H L = some (.lst (vs.reverse ++ [.ref t])) := by rw [hL]; simp
      refine fx_cond h.sL hL0 fun z hz => ?_
      have e0 : (!(vs.reverse ++ [V.ref t]).isEmpty) = true := by simp
      rw [e0, if_pos rfl]
      refine ⟨fun σ' H' => ∃ m', m' < m ∧ LHm K c x m' σ' H', fun _ _ z => z, ?_⟩
      have g0 : LH K c x m σ H G L As st vs := ⟨hrb, hlen, hsL, hfL, fun q => hnL (by simp [q]), f8, fun q hq => hok q (by simp [hq]), hsm⟩
      have npL : p ≠ L := fun e => hnL (by simp [e])
      obtain ⟨hq1, ys, hr, hlt, hyl⟩ := hok (one, ps) (by simp)
      have h1 := g0.fresh (o := .lst []) hz
      have hL1 : upd H z (.lst []) L = some (.lst (vs.reverse ++ [.ref t])) := by rw [upd_ne (ne_of_none hL0 hz)]; exact hL0
      have ht1 : upd H z (.lst []) t = some (.tup [ov, .ref p]) := by rw [upd_ne (ne_of_none f1 hz)]; exact f1
      have hp1 : upd H z (.lst []) p = some (.lst ws) := by rw [upd_ne (ne_of_none f2 hz)]; exact f2
      generalize upd H z (.lst []) = H1 at h1 hL1 ht1 hp1
      have h2 := h1.line (o := .lst vs.reverse) hL1
      have htL : t ≠ L := fun e => by subst e; rw [ht1] at hL1; cases hL1
      have ht2 : upd H1 L (.lst vs.reverse) t = some (.tup [ov, .ref p]) := by rw [upd_ne htL]; exact ht1
      have hp2 : upd H1 L (.lst vs.reverse) p = some (.lst ws) := by rw [upd_ne npL]; exact hp1
      refine fx_pop h1.sL hL1 (.inl (.inl ht2)) ?_
      have hl5 : ((σ.set 3 (some ov)).set 4 (some (V.ref p))).length = 5 := by rw [List.length_set, List.length_set]; exact h.len
      have s3 : ((σ.set 3 (some ov)).set 4 (some (V.ref p)))[3]? = some (some ov) := by rw [List.getElem?_set_ne (by decide)]; exact List.getElem?_set_self (by have := h.len; omega)
      have s4 : ((σ.set 3 (some ov)).set 4 (some (V.ref p)))[4]? = some (some (.ref p)) := List.getElem?_set_self (by rw [List.length_set]; have := h.len; omega)
      have s1' : ((σ.set 3 (some ov)).set 4 (some (V.ref p)))[1]? = some (some v) := by rw [List.getElem?_set_ne (by decide), List.getElem?_set_ne (by decide)]; exact s1
      have h3 : LH K c x m ((σ.set 3 (some ov)).set 4 (some (.ref p))) (upd H1 L (.lst vs.reverse)) G L As st vs := h2.locs hl5 (by rw [List.getElem?_set_ne (by decide), List.getElem?_set_ne (by decide)])
      have hL3 : upd H1 L (.lst vs.reverse) L = some (.lst vs.reverse) := upd_same
      generalize (σ.set 3 (some ov)).set 4 (some (V.ref p)) = σ1 at hl5 s3 s4 s1' h3
      have hi : itsD one = ys := by unfold itsD; rw [hr]; rfl
      simp only [fws, fw, hi] at hm hfl
      have hvl' : vs.length = st.length := by simpa using hvl
      have hfl' := fws_len st
      refine fx_row_test hrow hn hc h3 s3 f3 (hins one hq1) (by rw [hL3]; simp) fun G' H' h4 sh sg frr => ?_
      have hL4 : H' L = some (.lst vs.reverse) := sh _ _ hL3
      have hp4 : H' p = some (.lst ws) := sh _ _ hp2
      have fp4 : Free c G' p := frr p (by rw [hp2]; simp) f6
      have hsz : 1000004 < sizeLine := by rw [sizeLine_eq]; decide
      have e1 : (!rowB one) = false := by simp [rowB, hr]
      rw [e1, if_neg Bool.false_ne_true]
      refine ⟨.ref p, s4, rfl, false, rfl, ?_⟩
      show fxMore K _ σ1 H'
      refine fx_more h4 hp4 fp4 f7 npL hL4 s3 s4 s1' (rd.mono sg) (f3.mono sg) (f4.mono sg) hr hq1 hlt hyl (by omega) (fun he σ' H' G' v l hl' rv s1 => ?_) (fun y hy σ' H' G' v t l rv hl' => ?_)
      · refine fx_done hD (l.less (m' := m - 1) (by omega)) (by omega) rv s1 hl' ?_ hvl' fun σ' H' z => ⟨m - 1, by omega, z⟩
        rw [← hres]
        simp only [res, hi]
        rw [List.drop_of_length_le (by omega : ys.length ≤ ps.length + 1)]
        rfl
      · refine ⟨m - 1, by omega, .ev (l.less (by omega)) rv (hsub one y ys hq1 hr (List.mem_of_getElem? hy)) hl' ?_ ?_⟩
        · have := wts_drop ys (ps.length + 1) y hy
          simp only [fws, fw, hi, List.length_append, List.length_cons, List.length_nil, Nat.zero_add]
          omega
        · rw [← hres]
          simp only [res, hi]
          rw [fxDs_drop ys (ps.length + 1) y hy]
          simp
end
theorem fixed_run {K : PySem.W.Frag} {c : C0} {x : D} {σ : St} {G H : Hp} {W : WX} {spR : SpD} {vx : V} (hrow : ∀ (d : D) (Qd : D → List S → Prop) (Xd : XV → List S → Prop), d.isIns = false → Qd (.bl (rowB d)) [.d d] → spR [.d d] Qd Xd) (hins : ∀ d : D, d.noi = true → d.isIns = false) (hn : c.n = 5) (hc : ∀ i, c.ad i = none) {Dx : Ends}
    (hD : ∀ (v : V) (G H : Hp), RB c G H → RepD K G (fxD x) v → Dx.rt v H) (hsub : ∀ (d y : D) (ys : List D), d.noi = true → rowI d = some ys → y ∈ ys → y.noi = true)
    (rb : RB c G H) (hl : σ.length = 5) (h0 : σ[0]? = some (some vx)) (rd : RepD K G x vx) (hno : x.noi = true) (hw : wt x ≤ 1000000) : tFixed K (fxRow K c W spR) Dx σ H := by
  refine ⟨vx, h0, by show 2 ≤ _; exact Nat.le_trans (by decide) mil, fun z hz => ⟨by show 1 ≤ _; exact Nat.le_trans (by decide) mil, fun L hL => ⟨.non, .ref L, rfl, ?_⟩⟩⟩
  obtain ⟨r1, sg⟩ := rb.newT (o := .tup [vx, .non]) hz
  have r2 := r1.upd (o := .lst [.ref z]) (r1.free0 hL)
  have hl2 : ((σ.set 1 (some V.non)).set 2 (some (.ref L))).length = 5 := by rw [List.length_set, List.length_set]; exact hl
  have lh : LH K c x (wt x) ((σ.set 1 (some V.non)).set 2 (some (.ref L))) (upd (upd H z (.tup [vx, .non])) L (.lst [.ref z])) (upd G z (.tup [vx, .non])) L [] [] [] :=
    ⟨r2, hl2, List.getElem?_set_self (by rw [List.length_set]; omega), r1.free0 hL, by simp, .nil, fun q hq => by simp at hq, hw⟩
  have rt : RepD K (upd G z (.tup [vx, .non])) (.tup [x, .non]) (.ref z) := .tup (.inl (.inl upd_same)) (.cons (rd.mono sg) (.cons .non .nil))
  refine ⟨fun m σ H => LHm K c x m σ H, ⟨wt x, .ev lh rt hno (by rw [upd_same]; rfl) (by simp [fws]) rfl⟩, fun m σ' H' h => ?_⟩
  exact fx_step hrow hins hn hc (Dx := { Dx with nx := tRet (tVar 1) Dx }) hD hsub h
section
variable {P : Program} {w : World} {K : PySem.W.Frag} {mg : Str → Option Value} {base : Heap}
/-- the promise of the def that fixes rows -/
def spFix : SpD := fun as Qd _ => ∃ d, as = [.d d] ∧ (d.noi = true ∧ wt d ≤ 1000000) ∧ Qd (fxD d) [.d d]
theorem fn_fixed {x qual : Str} {st : Stmt} {f : Addr} {fd : FuncData} {N ps : List Str} {k : Nat} {spR : SpD} (F : Fun K x qual st f fd) (SC : FnScope N ps (defScope st)) (hN5 : N.length = 5) (hps : ps.length = 1)
    (hrow : ∀ (d : D) (Qd : D → List S → Prop) (Xd : XV → List S → Prop), d.isIns = false → Qd (.bl (rowB d)) [.d d] → spR [.d d] Qd Xd) (hins : ∀ d : D, d.noi = true → d.isIns = false) (hsub : ∀ (d y : D) (ys : List D), d.noi = true → rowI d = some ys → y ∈ ys → y.noi = true)
    (hbody : ∀ (cdv : Value) (A : Around) (outer : List Env) (s : Shared) (H : Hp) (E : XK) (c : C0), Room k (A.deeper (envOfC qual (defScope st) s.heap.objs.size f cdv)) →
      Takes (cxOf (L2.CX P w) P w K mg base N qual (defScope st) f cdv A outer s H E) (WE0 E) → PassesOwn (model P w) (cxOf (L2.CX P w) P w K mg base N qual (defScope st) f cdv A outer s H E).A (cxOf (L2.CX P w) P w K mg base N qual (defScope st) f cdv A outer s H E).env (cxOf (L2.CX P w) P w K mg base N qual (defScope st) f cdv A outer s H E).xe →
      PSs (cxOf (L2.CX P w) P w K mg base N qual (defScope st) f cdv A outer s H E) (defBody st) (tFixed K (fxRow K c (WE0 E) spR))) :
    FnOk P w K mg base (L2.CX P w) (k + 1) f fd ps (spOf K ps.length spFix) := by
  refine F.okX SC (fun vs H Q E h => h.1) (fun cdv A outer s H vs Q E hr h => ?_)
  obtain ⟨hlen, G, as, Qd, Xd, ar, ⟨d, rfl, ⟨hno, hw⟩, hq⟩, hQ, hE⟩ := h
  have tk : Takes (cxOf (L2.CX P w) P w K mg base N qual (defScope st) f cdv A outer s H E) (WE0 E) := takes_of rfl rfl rfl rfl
  obtain ⟨v, hv, rd⟩ := ar.sl 0 _ rfl
  obtain ⟨vx, rfl⟩ : ∃ vx, vs = [vx] := by
    match vs, hlen with
    | [a], _ => exact ⟨a, rfl⟩
    | [], h => rw [hps] at h; cases h
    | _ :: _ :: _, h => rw [hps] at h; simp at h
  have e0 : vx = v := by simpa using hv
  subst e0
  have hc : ∀ i, (⟨H, G, fun _ => none, 5⟩ : C0).ad i = none := fun _ => rfl
  refine ⟨_, hbody cdv A outer s H E ⟨H, G, fun _ => none, 5⟩ hr tk (passes_of rfl), ?_⟩
  refine fixed_run (c := ⟨H, G, fun _ => none, 5⟩) (x := d) (vx := vx) hrow hins rfl hc (fun v' G' H' rb rv => ?_) hsub ⟨ar.gh, fun _ _ e => e, Same.refl _, fun _ e => .inl e⟩ ?_ ?_ rd hno hw
  · refine hQ (fxD d) [.d d] v' G' H' ⟨⟨rfl, fun i s h => ?_, rb.gh, fun i s a h o _ => ?_, fun i j s t a h _ o _ _ _ => ?_, fun i s h o => ?_⟩, rb.gsub, fun a o e _ => rb.keep a o e, rb.gnew, fun a e => ?_, fun i s h o => ?_, fun i s h o => h⟩ rv hq
    · cases i with
      | zero => cases h; exact ⟨vx, rfl, rd.mono rb.gsub⟩
      | succ i => simp at h
    · cases i with
      | zero => cases h; cases o
      | succ i => simp at h
    · cases i with
      | zero => cases h; cases o
      | succ i => simp at h
    · cases i with
      | zero => cases h; cases o
      | succ i => simp at h
    · cases q : H a with
      | none => exact absurd q e
      | some o => rw [rb.keep a o q]; simp
    · cases i with
      | zero => cases h; cases o
      | succ i => simp at h
  · show (L2.start N [vx]).length = 5
    unfold L2.start
    simp
    omega
  · show (L2.start N [vx])[0]? = _
    rfl
end
end L3

/-! L3: a module's defs put together -/
namespace L3
open PySem PySem.Spec PyProof.Rows L2
/-- t keeps the promise sp -/
def KeepsT (n N : Nat) (sp : SpD) (t : TDS) : Prop := ∀ (as : List S) (Qd : D → List S → Prop) (Xd : XV → List S → Prop), as.length = n → sp as Qd Xd → t (fun x e => Xd x (merge as e)) { nx := fun e => Qd .non (merge as e), rt := fun d e => Qd d (merge as e) } (startE N as)
/-- a def of the module, no defaults -/
structure Dd (K : PySem.W.Frag) (mg : Str → Option Value) (x : Str) (st : Stmt) (ps : List Str) (f : Addr) (fd : FuncData) : Prop where
  fn : Fun K x x st f fd
  mgf : mg x = some (.ref f)
  kp : PySem.W.keepIn K (.ref f) = true
  bi : Binds K fd ps []
section
variable {P : Program} {w : World} {K : PySem.W.Frag} {mg : Str → Option Value} {base : Heap} {x : Str} {st : Stmt} {ps N : List Str} {f : Addr} {fd : FuncData} {k n : Nat} {sp sp' : SpD} {t : TDS}
theorem Dd.ok (D : Dd K mg x st ps f fd) (SC : FnScope N ps (defScope st))
    (hbody : ∀ (cdv : Value) (A : Around) (outer : List Env) (s : Shared) (H : Hp) (E : XK) (c : C0), Room k (A.deeper (envOfC x (defScope st) s.heap.objs.size f cdv)) →
      Takes (cxOf (L2.CX P w) P w K mg base N x (defScope st) f cdv A outer s H E) (WE0 E) → PassesOwn (model P w) (cxOf (L2.CX P w) P w K mg base N x (defScope st) f cdv A outer s H E).A (cxOf (L2.CX P w) P w K mg base N x (defScope st) f cdv A outer s H E).env (cxOf (L2.CX P w) P w K mg base N x (defScope st) f cdv A outer s H E).xe →
      DSs (cxOf (L2.CX P w) P w K mg base N x (defScope st) f cdv A outer s H E) c (WE0 E) (defBody st) t)
    (hsp : KeepsT ps.length N.length sp t) : FnOk P w K mg base (L2.CX P w) (k + 1) f fd ps (spOf K ps.length sp) := fn_ok D.fn SC hbody hsp
theorem Dd.cal_of (D : Dd K mg x st ps f fd) (h : FnOk P w K mg base (L2.CX P w) k f fd ps (spOf K ps.length sp)) : Cal P w K mg base k x ps.length sp [] :=
  ⟨⟨f, fd, ps, [], [], rfl, h, D.mgf, D.kp, D.bi, .nil, fun _ => .nil⟩⟩
theorem Dd.calK_of {ks : List Str} {g : GK} (D : Dd K mg x st ps f fd) (h : FnOk P w K mg base (L2.CX P w) k f fd ps (spOf K ps.length sp)) (hb : KBn K fd ps n ks (fun us ws => g us ws) (fun vs zs => g vs zs)) (hg : GKok g) : CalK P w K mg base k x ps.length n ks g sp :=
  ⟨⟨f, fd, ps, rfl, h, D.mgf, D.kp, hb⟩, hg⟩
theorem Dd.calL_of {sp : SpL} (D : Dd K mg x st ps f fd) (h : FnOk P w K mg base (L2.CX P w) k f fd ps (spOfL K ps.length sp)) : CalL P w K mg base k x ps.length sp :=
  ⟨⟨f, fd, ps, rfl, h, D.mgf, D.kp, D.bi⟩⟩
/-- a promise that asks for more -/
theorem spOf_imp {vs : List V} {H : Hp} {Q : VK} {E : XK} (i : ∀ as Qd Xd, sp as Qd Xd → sp' as Qd Xd) (h : spOf K n sp vs H Q E) : spOf K n sp' vs H Q E := by
  obtain ⟨hl, G, as, Qd, Xd, ar, hs, q1, q2⟩ := h
  exact ⟨hl, G, as, Qd, Xd, ar, i _ _ _ hs, q1, q2⟩
theorem fn_imp (F : FnOk P w K mg base (L2.CX P w) k f fd ps (spOf K n sp')) (i : ∀ as Qd Xd, sp as Qd Xd → sp' as Qd Xd) : FnOk P w K mg base (L2.CX P w) k f fd ps (spOf K n sp) :=
  ⟨fun vs H Q E h => F.len vs H Q E (spOf_imp i h), fun A outer s H args us vs Q E hr h1 h2 h3 h4 => F.run A outer s H args us vs Q E hr h1 h2 h3 (spOf_imp i h4)⟩
/-- a promise that nobody can ask for -/
theorem fn_none (i : ∀ as Qd Xd, as.length = ps.length → ¬ sp as Qd Xd) : FnOk P w K mg base (L2.CX P w) k f fd ps (spOf K ps.length sp) := by
  have no : ∀ {vs : List V} {H : Hp} {Q : VK} {E : XK}, spOf K ps.length sp vs H Q E → False := fun h => by
    obtain ⟨hl, G, as, Qd, Xd, ar, hs, _⟩ := h
    exact i as Qd Xd (by rw [← ar.len]; exact hl) hs
  exact ⟨fun vs H Q E h => (no h).elim, fun A outer s H args us vs Q E hr h1 h2 h3 h4 => (no h4).elim⟩
theorem dd_mk {h : Heap} {oc : Value} {od an : Option Addr} {osl : Array (Option Value)} {kV doc pm cdv ct : Value} (X : K.In h) (G : h.Ns mainGlobals mg) (a : PySem.W.nsIn K mainGlobals x = some (some (.ref f)))
    (l : K.lookup f = some ⟨oc, od, .func (PySem.W.fnOf x x (defArgs st) (defBody st) (defScope st) .none kV doc pm an cdv ct), osl⟩) (c : PySem.W.codeIn K cdv x = true) (kp : PySem.W.keepIn K (.ref f) = true)
    (hb : ∀ us : List Value, us.length = ps.length → bindArgs (PySem.W.fnOf x x (defArgs st) (defBody st) (defScope st) .none kV doc pm an cdv ct) ⟨us, []⟩ = pure (ps.zip us)) :
    Dd K mg x st ps f (PySem.W.fnOf x x (defArgs st) (defBody st) (defScope st) .none kV doc pm an cdv ct) :=
  ⟨fun_mk l c kp, PySem.W.mg_of X G a, kp, Binds.all hb⟩
end
/-- f(k = v): the parameters in their order -/
def gApp : GK := fun a b => a ++ b
theorem gApp_ok : GKok gApp := ⟨fun h1 h2 => RepDs.append h1 h2⟩
section
variable {K : PySem.W.Frag} {mg : Str → Option Value} {x : Str}
theorem glo_str {z : Str} {t : Tok} (h : mg x = some (.str z t)) : Glo K mg x (.str z) := ⟨⟨_, .str z, h, ⟨t, rfl⟩, fun _ => .str z⟩⟩
theorem glo_int {i : Int} {t : Tok} (h : mg x = some (.int i t)) : Glo K mg x (.int i) := ⟨⟨_, .int i, h, ⟨t, rfl⟩, fun _ => .int i⟩⟩
theorem reps_strs2 {G : Hp} : ∀ zs : List Str, RepDs K G (zs.map D.str) (zs.map V.str)
  | [] => .nil
  | _ :: r => .cons (.str _) (reps_strs2 r)
theorem glo_strs {zs : List Str} {p : Addr} {its : Array Value} {n : Nat} {sl : Array (Option Value)} {dd : Option Addr} (h : mg x = some (.ref p)) (l : K.lookup p = some ⟨.type "tuple", dd, .seq its n, sl⟩) (v : Vals (zs.map V.str) its.toList) (hl : zs.length ≤ 1000) : Glo K mg x (.tup (zs.map D.str)) :=
  ⟨⟨_, .ref p, h, rfl, fun _ => .tup (.inr ⟨_, its, n, l, rfl, rfl, by
    have e := v.length
    rw [List.length_map] at e
    have e2 : its.toList.length = its.size := Array.length_toList
    have := mil
    omega, v⟩) (reps_strs2 zs)⟩⟩
end
/-- the law's promise -/
def spLawD : SpD := fun as Qd _ => ∃ ns : List Int, as = [.d (scrD (ns.map D.int))] ∧ ns.length ≤ 63 ∧ Qd (.bl true) as
theorem law_sp {K : PySem.W.Frag} {H : Hp} {a : Addr} {ns : List Int} (hl : ns.length ≤ 63) (hS : SqL K H a (ns.map V.int)) : spOf K 1 spLawD [.ref a] H (fun v _ => v = .bl true) fun _ _ _ => False := by
  refine ⟨rfl, H, [.d (scrD (ns.map D.int))], fun d _ => d = .bl true, fun _ _ => False, ?_, ⟨ns, rfl, hl, rfl⟩, ?_, fun _ _ _ _ _ _ _ _ z => z.elim⟩
  · refine ⟨rfl, fun i s h => ?_, Same.refl _, fun i s a h o => ?_, fun i j s t a h _ o => ?_, fun i s h o => ?_⟩
    · cases i with
      | zero => cases h; exact ⟨.ref a, rfl, .scr hS (reps_ints ns)⟩
      | succ i => simp at h
    all_goals
      cases i with
      | zero => cases h; cases o
      | succ i => simp at h
  · rintro d as' v G' H' _ rv rfl
    cases rv
    rfl
theorem walk {l : PySem.W.OpenLaw} {q : Program} {loose : List Str} {XP : (Str → Option Value) → Heap → Prop} {YP : World → Heap → Prop} {d : DefRec} {K : Params → PySem.W.Frag} {k : Nat} (hn : l.most = some 63) (hdf : d.params.defaults = []) (hr : Room k callerA)
    (hY : ∀ (w : World) (h : Heap), YP w h → (K w.params).In h)
    (F : ∀ (w : World) (mg : Str → Option Value) (fa : Addr) (h : Heap), (K w.params).In h → h.Ns mainGlobals mg → mg d.name = some (.ref fa) →
      ∃ fd : FuncData, (∀ (s : Shared) (u : Value), BindsTo s fd ⟨[u], []⟩ [("script", u)]) ∧ ∀ base : Heap, (K w.params).In base → base.Ns mainGlobals mg → FnOk l.prog w (K w.params) mg base (L2.CX l.prog w) k fa fd ["script"] (spOf (K w.params) 1 spLawD)) :
    PySem.W.WalkO q loose XP YP l.row.toRowW d [] (fun f vs => PySem.call f vs) :=
  L2.walk_of (n := 63) (k := k) (x := "script") (CX := fun w => L2.CX l.prog w) (sp := fun w => spOf (K w.params) 1 spLawD) hn (by decide) hdf hr hY F (fun _ H a ns hl _ hS => law_sp hl hS) fun w H s e s' h => by
    obtain ⟨_, _, _, _, _, _, _, _, _, _, _, _, z⟩ := h
    exact z
end L3

namespace Law
open PySem PySem.Spec PyProof.Rows L2 L3
local macro_rules | `(tactic| walk_at "l3") => `(tactic| (repeat first
  | (with_reducible refine x_seq ?_)
  | (with_reducible refine x_next ?_)
  | (with_reducible refine x_cont ?_)
  | (with_reducible refine x_break ?_)
  | (with_reducible refine x_drop ?_)
  | (with_reducible refine x_ret ?_)
  | (with_reducible refine x_ifs ?_)
  | (with_reducible refine x_set ?_)
  | (with_reducible refine x_asg ?_)
  | (with_reducible refine x_par ?_)
  | (with_reducible refine x_wset ?_)
  | (with_reducible refine x_b ?_)
  | (with_reducible refine x_not ?_)
  | (with_reducible refine x_and ?_)
  | (with_reducible refine x_or ?_)
  | (with_reducible refine x_andV ?_)
  | (with_reducible refine x_orV ?_)
  | (with_reducible refine x_notV ?_)
  | (with_reducible refine x_if ?_)
  | (with_reducible refine x_yes ?_)
  | (with_reducible refine x_c ?_)
  | (with_reducible refine x_bin ?_)
  | (with_reducible refine x_un ?_)
  | (with_reducible refine x_chain ?_)
  | (with_reducible refine x_nil ?_)
  | (with_reducible refine x_cons ?_)
  | (with_reducible refine x_star ?_)
  | (with_reducible refine x_starK ?_)
  | (with_reducible refine x_tup ?_)
  | (with_reducible refine x_lst ?_)
  | (with_reducible refine x_dict0 ?_)
  | (with_reducible refine x_call ?_)
  | (with_reducible refine x_callR ?_)
  | (with_reducible refine x_sl ?_)
  | (with_reducible refine x_slS ?_)
  | (with_reducible refine x_part ?_)
  | (with_reducible refine x_nopart ?_)
  | (with_reducible refine x_ixK ?_)
  | (with_reducible refine x_inK ?_)
  | (with_reducible refine x_notInK ?_)
  | (with_reducible refine x_for ?_)
  | (with_reducible refine x_iseq ?_)
  | (with_reducible refine x_irng ?_)
  | (with_reducible refine x_gnil ?_)
  | (with_reducible refine x_gcons ?_)
  | (with_reducible refine x_see1 ?_)
  | (with_reducible refine x_seel ?_)
  | (with_reducible refine x_seeb ?_)
  | (with_reducible refine x_seei ?_)
  | (with_reducible refine x_sees ?_)
  | (with_reducible refine x_slt ?_)
  | (with_reducible refine x_sll ?_)
  | ((with_reducible apply x_getk); (first | assumption | exact rfl))
  | (with_reducible refine x_ift ?_)
  | (with_reducible refine x_iff ?_)
  | (with_reducible refine x_plus_i ?_)
  | (with_reducible refine x_sub_i ?_)
  | (with_reducible refine x_lt ?_)
  | (with_reducible refine x_le ?_)
  | (with_reducible refine x_gt ?_)
  | (with_reducible refine x_ge ?_)
  | (with_reducible refine x_eq_i ?_)
  | (with_reducible refine x_ne_i ?_)
  | (with_reducible refine x_is_n ?_)
  | (with_reducible refine x_isnot_n ?_)
  | (with_reducible refine x_in_s ?_)
  | (with_reducible refine x_list_t ?_)
  | (with_reducible refine x_int_i ?_)
  | (with_reducible refine x_int_b ?_)
  | (with_reducible refine x_abs ?_)
  | ((with_reducible apply x_mod); (focus first | assumption | omega))
  | ((with_reducible apply x_div); (focus first | assumption | omega); (focus first | assumption | omega))
  | ((with_reducible apply x_star_i); (focus first | assumption | exact Or.inl ⟨by decide, by decide⟩ | exact Or.inr ⟨by omega, by omega⟩))
  | ((with_reducible apply x_pow); (focus first | assumption | exact ⟨by decide, by decide, by decide⟩))
  | ((with_reducible apply x_wsetn); (exact rfl); (exact rfl); (exact rfl))
  | (with_reducible refine x_list_l ?_)
  | ((with_reducible apply x_var); (exact rfl))
  | ((with_reducible apply x_isi); (first | exact rfl | assumption))
  | ((with_reducible apply x_gname); (exact rfl); (first | exact rfl | assumption))
  | ((with_reducible apply x_gtup); (exact rfl))
  | ((with_reducible apply x_ref); (exact rfl); (exact rfl))
  | (with_reducible refine x_ix_t0 ?_)
  | (with_reducible refine x_ix_l0 ?_)
  | (with_reducible refine x_ix_t1 ?_)
  | (with_reducible refine x_ix_l1 ?_)
  | (with_reducible refine x_ix_t2 ?_)
  | (with_reducible refine x_ix_l2 ?_)
  | ((with_reducible apply x_ix_l); (exact rfl))
  | ((with_reducible apply x_ix_t); (exact rfl))
  | ((with_reducible apply x_wix); (exact rfl); (exact rfl))
  | ((with_reducible apply x_len_l); (focus first | assumption | omega | (simp; done) | (simp; omega)))
  | ((with_reducible apply x_len_t); (focus first | assumption | omega | (simp; done) | (simp; omega)))
  | ((with_reducible apply x_plus_l); (focus first | assumption | omega | (simp; done) | (simp; omega)))
  | ((with_reducible apply x_app); (exact rfl))
  | ((with_reducible apply x_ext); (exact rfl))
  | ((with_reducible apply x_see2); (exact rfl); (exact rfl))
  | ((with_reducible apply x_seesl); (exact rfl))
  | ((with_reducible apply x_asgn); (exact rfl); (first | exact rfl | assumption); (exact rfl))
  | ((with_reducible apply x_parn); (focus (intro _ z; cases z; done)); (focus (intro _ z; cases z; done)); (exact rfl); (first | exact rfl | assumption); (exact rfl); (first | exact rfl | assumption); (exact rfl); (exact rfl))
  | ((with_reducible apply x_dats); (exact rfl); (focus first | omega | (simp; done) | (simp; omega)))
  | ((with_reducible apply x_callg); (exact rfl); (exact rfl))
  | ((with_reducible apply x_items); (exact rfl); (exact rfl))
  | ((with_reducible apply x_tail); (exact rfl))
  | ((with_reducible apply x_extn); (exact rfl); (exact rfl); (focus first | assumption | omega | (simp; done) | (simp; omega)))
  | ((with_reducible apply x_appn); (exact rfl); (exact rfl); (focus first | assumption | omega | (simp; done) | (simp; omega)))
  | ((with_reducible apply x_ifp); (exact rfl))
  | ((with_reducible apply x_ifn); (exact rfl))
  | (dsimp only [fz, List.set_cons_zero, List.set_cons_succ, startE, List.replicate, List.length_cons, List.length_nil, List.cons_append, List.nil_append, Nat.reduceAdd, Nat.reduceSub, Int.reduceToNat, merge, Bool.false_eq_true, if_false])))
def top (i : Nat) : Stmt := PySem.Challenge.pw_provenruns_k26_values_and_bare_ones.main.body.getD i (.Pass ⟨0, 0, 0, 0⟩)
def gId : GK := fun a b => a ++ b
theorem bv_abs : bootBuiltins "abs" = some (.builtin "abs") := by decide +kernel
theorem bv_all : bootBuiltins "all" = some (.builtin "all") := by decide +kernel
theorem bv_any : bootBuiltins "any" = some (.builtin "any") := by decide +kernel
theorem bv_bool : bootBuiltins "bool" = some (.type "bool") := by decide +kernel
theorem bv_int : bootBuiltins "int" = some (.type "int") := by decide +kernel
theorem bv_isinstance : bootBuiltins "isinstance" = some (.builtin "isinstance") := by decide +kernel
theorem bv_len : bootBuiltins "len" = some (.builtin "len") := by decide +kernel
theorem bv_list : bootBuiltins "list" = some (.type "list") := by decide +kernel
theorem bv_range : bootBuiltins "range" = some (.type "range") := by decide +kernel
theorem bv_repr : bootBuiltins "repr" = some (.builtin "repr") := by decide +kernel
theorem bv_str : bootBuiltins "str" = some (.type "str") := by decide +kernel
theorem bv_tuple : bootBuiltins "tuple" = some (.type "tuple") := by decide +kernel
def c_JOINS : D := .tup [.str "and", .str "or", .str "gives"]
def c_LETTERS : D := .str "abcdefghijklmnopqrstuvwxyz"
def c_MOST_PARTS : D := .int (24)
def c_MOST_SIGNS : D := .int (8)
def c_NO : D := .str "no"
def c_OR : D := .str "or"
def c_WORDS : D := .tup [.str "and", .str "or", .str "gives", .str "yes", .str "no", .str "fun", .str "call", .str "pair", .str "first", .str "second", .str "left", .str "right", .str "case", .str "unit", .str "never", .str "hole"]
def c_YES : D := .str "yes"
def k_INNER : List (Str × D) := [("pair", .int (2)), ("left", .int (1)), ("right", .int (1))]
structure Tx (K : PySem.W.Frag) (w : World) (mg : Str → Option Value) : Prop where
  z_abs : mg "abs" = none
  z_all : mg "all" = none
  z_any : mg "any" = none
  z_bool : mg "bool" = none
  z_int : mg "int" = none
  z_isinstance : mg "isinstance" = none
  z_len : mg "len" = none
  z_list : mg "list" = none
  z_range : mg "range" = none
  z_repr : mg "repr" = none
  z_str : mg "str" = none
  z_tuple : mg "tuple" = none
  g_JOINS : Glo K mg "JOINS" c_JOINS
  g_LETTERS : Glo K mg "LETTERS" c_LETTERS
  g_MOST_PARTS : Glo K mg "MOST_PARTS" c_MOST_PARTS
  g_MOST_SIGNS : Glo K mg "MOST_SIGNS" c_MOST_SIGNS
  g_NO : Glo K mg "NO" c_NO
  g_OR : Glo K mg "OR" c_OR
  g_WORDS : Glo K mg "WORDS" c_WORDS
  g_YES : Glo K mg "YES" c_YES
  k_INNER : GloK K w mg "INNER" k_INNER
abbrev st_is_integer : Stmt := top 6
theorem sc_is_integer : FnScope ["value"] ["value"] (defScope st_is_integer) := ⟨rfl, rfl, rfl, by decide +kernel, rfl, by decide +kernel, by decide +kernel⟩
def t_is_integer : TDS :=
(dRet (dAndV (dUn (r31Isi ["int"]) (dVar 0))
   (dNotV (dB (dUn (r31Isi ["bool"]) (dVar 0))))))
theorem d_is_integer {P : Program} {w : World} {K : PySem.W.Frag} {mg : Str → Option Value} {base : Heap} {k : Nat} (T : Tx K w mg)
    {f : Addr} (cdv : Value) (A : Around) (outer : List Env) (s : Shared) (H : Hp) (E : XK) (c : C0) (hr : Room k (A.deeper (envOfC "is_integer" (defScope st_is_integer) s.heap.objs.size f cdv)))
    (tk : Takes (cxOf (L2.CX P w) P w K mg base ["value"] "is_integer" (defScope st_is_integer) f cdv A outer s H E) (WE0 E)) (ho : PassesOwn (model P w) (cxOf (L2.CX P w) P w K mg base ["value"] "is_integer" (defScope st_is_integer) f cdv A outer s H E).A (cxOf (L2.CX P w) P w K mg base ["value"] "is_integer" (defScope st_is_integer) f cdv A outer s H E).env (cxOf (L2.CX P w) P w K mg base ["value"] "is_integer" (defScope st_is_integer) f cdv A outer s H E).xe) : DSs (cxOf (L2.CX P w) P w K mg base ["value"] "is_integer" (defScope st_is_integer) f cdv A outer s H E) c (WE0 E) (defBody st_is_integer) (t_is_integer) := by
  have ndN : (cxOf (L2.CX P w) P w K mg base ["value"] "is_integer" (defScope st_is_integer) f cdv A outer s H E).N.Nodup := sc_is_integer.nd
  exact (dss_one (ds_ret (de_and (de_isi1 "int" rfl rfl T.z_isinstance rfl T.z_int bv_int (dv 0))
   (de_one (de_notB (de_isi1 "bool" rfl rfl T.z_isinstance rfl T.z_bool bv_bool (dv 0)))))))
abbrev st_is_within : Stmt := top 7
theorem sc_is_within : FnScope ["value", "least", "most"] ["value", "least", "most"] (defScope st_is_within) := ⟨rfl, rfl, rfl, by decide +kernel, rfl, by decide +kernel, by decide +kernel⟩
def t_is_within (sp_is_integer : SpD) : TDS :=
(dRet (dAndV (dCall 1 sp_is_integer [] (dCons (dVar 0) dNil))
   (dAndV (dBin r3Le (dVar 1) (dVar 0))
   (dOrV (dBin r3Is (dVar 2) (dC .non))
   (dBin r3Le (dVar 0) (dVar 2))))))
theorem d_is_within {P : Program} {w : World} {K : PySem.W.Frag} {mg : Str → Option Value} {base : Heap} {k kis_integer : Nat} {sp_is_integer : SpD} (T : Tx K w mg)
    (C_is_integer : Cal P w K mg base kis_integer "is_integer" 1 sp_is_integer []) (l_is_integer : kis_integer ≤ k)
    {f : Addr} (cdv : Value) (A : Around) (outer : List Env) (s : Shared) (H : Hp) (E : XK) (c : C0) (hr : Room k (A.deeper (envOfC "is_within" (defScope st_is_within) s.heap.objs.size f cdv)))
    (tk : Takes (cxOf (L2.CX P w) P w K mg base ["value", "least", "most"] "is_within" (defScope st_is_within) f cdv A outer s H E) (WE0 E)) (ho : PassesOwn (model P w) (cxOf (L2.CX P w) P w K mg base ["value", "least", "most"] "is_within" (defScope st_is_within) f cdv A outer s H E).A (cxOf (L2.CX P w) P w K mg base ["value", "least", "most"] "is_within" (defScope st_is_within) f cdv A outer s H E).env (cxOf (L2.CX P w) P w K mg base ["value", "least", "most"] "is_within" (defScope st_is_within) f cdv A outer s H E).xe) : DSs (cxOf (L2.CX P w) P w K mg base ["value", "least", "most"] "is_within" (defScope st_is_within) f cdv A outer s H E) c (WE0 E) (defBody st_is_within) (t_is_within sp_is_integer) := by
  have ndN : (cxOf (L2.CX P w) P w K mg base ["value", "least", "most"] "is_within" (defScope st_is_within) f cdv A outer s H E).N.Nodup := sc_is_within.nd
  exact (dss_one (ds_ret (de_and (de_c C_is_integer hr (by omega) tk (da_cons (dv 0) da_nil))
   (de_and (de_cmp op_le o3_bl0 (dv 1) (dv 0))
   (de_one (de_or (de_cmp op_is o3_is (dv 2) de_non)
   (de_one (de_cmp op_le o3_bl0 (dv 0) (dv 2)))))))))
abbrev st_is_row : Stmt := top 8
theorem sc_is_row : FnScope ["value"] ["value"] (defScope st_is_row) := ⟨rfl, rfl, rfl, by decide +kernel, rfl, by decide +kernel, by decide +kernel⟩
def t_is_row : TDS :=
(dRet (dUn (r31Isi ["list", "tuple"]) (dVar 0)))
theorem d_is_row {P : Program} {w : World} {K : PySem.W.Frag} {mg : Str → Option Value} {base : Heap} {k : Nat} (T : Tx K w mg)
    {f : Addr} (cdv : Value) (A : Around) (outer : List Env) (s : Shared) (H : Hp) (E : XK) (c : C0) (hr : Room k (A.deeper (envOfC "is_row" (defScope st_is_row) s.heap.objs.size f cdv)))
    (tk : Takes (cxOf (L2.CX P w) P w K mg base ["value"] "is_row" (defScope st_is_row) f cdv A outer s H E) (WE0 E)) (ho : PassesOwn (model P w) (cxOf (L2.CX P w) P w K mg base ["value"] "is_row" (defScope st_is_row) f cdv A outer s H E).A (cxOf (L2.CX P w) P w K mg base ["value"] "is_row" (defScope st_is_row) f cdv A outer s H E).env (cxOf (L2.CX P w) P w K mg base ["value"] "is_row" (defScope st_is_row) f cdv A outer s H E).xe) : DSs (cxOf (L2.CX P w) P w K mg base ["value"] "is_row" (defScope st_is_row) f cdv A outer s H E) c (WE0 E) (defBody st_is_row) (t_is_row) := by
  have ndN : (cxOf (L2.CX P w) P w K mg base ["value"] "is_row" (defScope st_is_row) f cdv A outer s H E).N.Nodup := sc_is_row.nd
  exact (dss_one (ds_ret (de_isi2 "list" "tuple" rfl rfl rfl T.z_isinstance rfl T.z_list bv_list rfl T.z_tuple bv_tuple (dv 0))))
abbrev st_is_name : Stmt := top 9
theorem sc_is_name : FnScope ["value", "sign"] ["value"] (defScope st_is_name) := ⟨rfl, rfl, rfl, by decide +kernel, rfl, by decide +kernel, by decide +kernel⟩
def t_is_name : TDS :=
(dSeq (dIfS (dOr (dNot (dB (dUn (r31Isi ["str"]) (dVar 0))))
   (dOr (dNot (dB (dChain r3Le r3Le (dC (.int (1))) (dUn r31Len (dVar 0)) (dC c_MOST_SIGNS))))
   (dB (dBin r3In (dVar 0) (dC c_WORDS)))))
  (dRet (dC (.bl false)))
  dNext)
  (dRet (dUn r31All (dLc (diSeq (dVar 0)) (dgName 1) dYes (dBin r3In (dVar 1) (dC c_LETTERS)) [1]))))
theorem d_is_name {P : Program} {w : World} {K : PySem.W.Frag} {mg : Str → Option Value} {base : Heap} {k : Nat} (T : Tx K w mg)
    {f : Addr} (cdv : Value) (A : Around) (outer : List Env) (s : Shared) (H : Hp) (E : XK) (c : C0) (hr : Room k (A.deeper (envOfC "is_name" (defScope st_is_name) s.heap.objs.size f cdv)))
    (tk : Takes (cxOf (L2.CX P w) P w K mg base ["value", "sign"] "is_name" (defScope st_is_name) f cdv A outer s H E) (WE0 E)) (ho : PassesOwn (model P w) (cxOf (L2.CX P w) P w K mg base ["value", "sign"] "is_name" (defScope st_is_name) f cdv A outer s H E).A (cxOf (L2.CX P w) P w K mg base ["value", "sign"] "is_name" (defScope st_is_name) f cdv A outer s H E).env (cxOf (L2.CX P w) P w K mg base ["value", "sign"] "is_name" (defScope st_is_name) f cdv A outer s H E).xe) : DSs (cxOf (L2.CX P w) P w K mg base ["value", "sign"] "is_name" (defScope st_is_name) f cdv A outer s H E) c (WE0 E) (defBody st_is_name) (t_is_name) := by
  have ndN : (cxOf (L2.CX P w) P w K mg base ["value", "sign"] "is_name" (defScope st_is_name) f cdv A outer s H E).N.Nodup := sc_is_name.nd
  exact (dss_cons (ds_if (dt_bool (dw_or (dt_not (dt_val (de_isi1 "str" rfl rfl T.z_isinstance rfl T.z_str bv_str (dv 0))))
   (dw_or (dt_not (dt_chain op_le o3_bl0 op_le o3_bl0 de_int (de_callB call_len u3_len rfl T.z_len bv_len (dv 0)) (dgl T.g_MOST_SIGNS)))
   (dw_or1 (dt_cmp op_in o3_in (dv 0) (dgl T.g_WORDS))))))
  (dss_one (ds_ret de_bl))
  dss_nil)
  (dss_one (ds_ret (de_callB (cr_all rfl) u3_all rfl T.z_all bv_all (de_lc rfl ndN [("sign", 1)] rfl (di_seq (dv 0)) (fun _ _ _ _ _ => (dg_name (i := 1) ndN)) (fun _ _ _ _ _ => dts_nil) (fun _ _ _ _ _ => (de_cmp op_in o3_in (dv 1) (dgl T.g_LETTERS))))))))
abbrev st_fixed : Stmt := top 11
theorem sc_fixed : FnScope ["value", "done", "line", "one", "parts"] ["value"] (defScope st_fixed) := ⟨rfl, rfl, rfl, by decide +kernel, rfl, by decide +kernel, by decide +kernel⟩
abbrev st_statement_in : Stmt := top 20
theorem sc_statement_in : FnScope ["value", "line", "many", "one"] ["value"] (defScope st_statement_in) := ⟨rfl, rfl, rfl, by decide +kernel, rfl, by decide +kernel, by decide +kernel⟩
def w1_statement_in (sp_is_name : SpD) (sp_fixed : SpD) : TDT :=
(dB (dBin r3Ne (dVar 1) (dLst dNil)))
def b1_statement_in (sp_is_name : SpD) (sp_fixed : SpD) : TDS :=
(dSeq (dPar 3 2 (dPop 1) (dBin r3Plus (dVar 2) (dC (.int (1)))))
  (dSeq (dIfS (dB (dBin r3Gt (dVar 2) (dC c_MOST_PARTS)))
  (dRet (dC .non))
  dNext)
  (dIfS (dB (dUn (r31Isi ["str"]) (dVar 3)))
  (dIfS (dAnd (dB (dBin r3NotIn (dVar 3) (dTup (dCons (dC c_YES) (dCons (dC c_NO) dNil)))))
   (dNot (dB (dCall 1 sp_is_name [] (dCons (dVar 3) dNil)))))
  (dRet (dC .non))
  dNext)
  (dIfS (dAnd (dB (dUn (r31Isi ["list", "tuple"]) (dVar 3)))
   (dAnd (dB (dBin r3Eq (dUn r31Len (dVar 3)) (dC (.int (3)))))
   (dAnd (dB (dUn (r31Isi ["str"]) (dBin r3Ix (dVar 3) (dC (.int (0))))))
   (dB (dBin r3In (dBin r3Ix (dVar 3) (dC (.int (0)))) (dC c_JOINS))))))
  (dDrop (dExt 1 (dLst (dCons (dBin r3Ix (dVar 3) (dC (.int (2)))) (dCons (dBin r3Ix (dVar 3) (dC (.int (1)))) dNil)))))
  (dRet (dC .non))))))
def t_statement_in (sp_is_name : SpD) (sp_fixed : SpD) : TDS :=
(dSeq (dPar 1 2 (dLst (dCons (dVar 0) dNil)) (dC (.int (0))))
  (dSeq (dWhile (w1_statement_in sp_is_name sp_fixed) (b1_statement_in sp_is_name sp_fixed))
  (dRet (dCall 1 sp_fixed [] (dCons (dVar 0) dNil)))))
theorem d_statement_in {P : Program} {w : World} {K : PySem.W.Frag} {mg : Str → Option Value} {base : Heap} {k kis_name kfixed : Nat} {sp_is_name : SpD} {sp_fixed : SpD} (T : Tx K w mg)
    (C_is_name : Cal P w K mg base kis_name "is_name" 1 sp_is_name []) (l_is_name : kis_name ≤ k)
    (C_fixed : Cal P w K mg base kfixed "fixed" 1 sp_fixed []) (l_fixed : kfixed ≤ k)
    {f : Addr} (cdv : Value) (A : Around) (outer : List Env) (s : Shared) (H : Hp) (E : XK) (c : C0) (hr : Room k (A.deeper (envOfC "statement_in" (defScope st_statement_in) s.heap.objs.size f cdv)))
    (tk : Takes (cxOf (L2.CX P w) P w K mg base ["value", "line", "many", "one"] "statement_in" (defScope st_statement_in) f cdv A outer s H E) (WE0 E)) (ho : PassesOwn (model P w) (cxOf (L2.CX P w) P w K mg base ["value", "line", "many", "one"] "statement_in" (defScope st_statement_in) f cdv A outer s H E).A (cxOf (L2.CX P w) P w K mg base ["value", "line", "many", "one"] "statement_in" (defScope st_statement_in) f cdv A outer s H E).env (cxOf (L2.CX P w) P w K mg base ["value", "line", "many", "one"] "statement_in" (defScope st_statement_in) f cdv A outer s H E).xe) : DSs (cxOf (L2.CX P w) P w K mg base ["value", "line", "many", "one"] "statement_in" (defScope st_statement_in) f cdv A outer s H E) c (WE0 E) (defBody st_statement_in) (t_statement_in sp_is_name sp_fixed) := by
  have ndN : (cxOf (L2.CX P w) P w K mg base ["value", "line", "many", "one"] "statement_in" (defScope st_statement_in) f cdv A outer s H E).N.Nodup := sc_statement_in.nd
  exact (dss_cons (ds_par (i := 1) (j := 2) rfl ndN (de_lst (da_cons (dv 0) da_nil)) de_int)
  (dss_cons (ds_while ho (dt_cmp (op_ne3 (room200 hr)) o3_ne (dv 1) (de_lst da_nil))
  (dss_cons (ds_par (i := 3) (j := 2) rfl ndN (de_pop 1) (de_op op_plus o3_plus (dv 2) de_int))
  (dss_cons (ds_if (dt_cmp op_gt o3_bl0 (dv 2) (dgl T.g_MOST_PARTS))
  (dss_one (ds_ret de_non))
  dss_nil)
  (dss_one (ds_if (dt_val (de_isi1 "str" rfl rfl T.z_isinstance rfl T.z_str bv_str (dv 3)))
  (dss_one (ds_if (dt_bool (dw_and (dt_cmp op_notIn o3_notIn (dv 3) (de_tup (da_cons (dgl T.g_YES) (da_cons (dgl T.g_NO) da_nil))))
   (dw_and1 (dt_not (dt_val (de_c C_is_name hr (by omega) tk (da_cons (dv 3) da_nil)))))))
  (dss_one (ds_ret de_non))
  dss_nil))
  (dss_one (ds_if (dt_bool (dw_and (dt_val (de_isi2 "list" "tuple" rfl rfl rfl T.z_isinstance rfl T.z_list bv_list rfl T.z_tuple bv_tuple (dv 3)))
   (dw_and (dt_cmp (op_eq3 (room200 hr)) o3_eq (de_callB call_len u3_len rfl T.z_len bv_len (dv 3)) de_int)
   (dw_and (dt_val (de_isi1 "str" rfl rfl T.z_isinstance rfl T.z_str bv_str (de_ix ix_seq o3_ix (dv 3) de_int)))
   (dw_and1 (dt_cmp op_in o3_in (de_ix ix_seq o3_ix (dv 3) de_int) (dgl T.g_JOINS)))))))
  (dss_one (ds_expr (de_extend 1 (de_lst (da_cons (de_ix ix_seq o3_ix (dv 3) de_int) (da_cons (de_ix ix_seq o3_ix (dv 3) de_int) da_nil))))))
  (dss_one (ds_ret de_non)))))))))
  (dss_one (ds_ret (de_c C_fixed hr (by omega) tk (da_cons (dv 0) da_nil))))))
abbrev st_parts_in : Stmt := top 21
theorem sc_parts_in : FnScope ["statement", "found", "line", "one"] ["statement"] (defScope st_parts_in) := ⟨rfl, rfl, rfl, by decide +kernel, rfl, by decide +kernel, by decide +kernel⟩
def w1_parts_in : TDT :=
(dB (dBin r3Ne (dVar 2) (dLst dNil)))
def b1_parts_in : TDS :=
(dSeq (dSet 3 (dPop 2))
  (dSeq (dDrop (dApp 1 (dVar 3)))
  (dIfS (dNot (dB (dUn (r31Isi ["str"]) (dVar 3))))
  (dDrop (dExt 2 (dLst (dCons (dBin r3Ix (dVar 3) (dC (.int (2)))) (dCons (dBin r3Ix (dVar 3) (dC (.int (1)))) dNil)))))
  dNext)))
def t_parts_in : TDS :=
(dSeq (dPar 1 2 (dLst dNil) (dLst (dCons (dVar 0) dNil)))
  (dSeq (dWhile (w1_parts_in) (b1_parts_in))
  (dRet (dUn r31Tuple (dVar 1)))))
theorem d_parts_in {P : Program} {w : World} {K : PySem.W.Frag} {mg : Str → Option Value} {base : Heap} {k : Nat} (T : Tx K w mg)
    {f : Addr} (cdv : Value) (A : Around) (outer : List Env) (s : Shared) (H : Hp) (E : XK) (c : C0) (hr : Room k (A.deeper (envOfC "parts_in" (defScope st_parts_in) s.heap.objs.size f cdv)))
    (tk : Takes (cxOf (L2.CX P w) P w K mg base ["statement", "found", "line", "one"] "parts_in" (defScope st_parts_in) f cdv A outer s H E) (WE0 E)) (ho : PassesOwn (model P w) (cxOf (L2.CX P w) P w K mg base ["statement", "found", "line", "one"] "parts_in" (defScope st_parts_in) f cdv A outer s H E).A (cxOf (L2.CX P w) P w K mg base ["statement", "found", "line", "one"] "parts_in" (defScope st_parts_in) f cdv A outer s H E).env (cxOf (L2.CX P w) P w K mg base ["statement", "found", "line", "one"] "parts_in" (defScope st_parts_in) f cdv A outer s H E).xe) : DSs (cxOf (L2.CX P w) P w K mg base ["statement", "found", "line", "one"] "parts_in" (defScope st_parts_in) f cdv A outer s H E) c (WE0 E) (defBody st_parts_in) (t_parts_in) := by
  have ndN : (cxOf (L2.CX P w) P w K mg base ["statement", "found", "line", "one"] "parts_in" (defScope st_parts_in) f cdv A outer s H E).N.Nodup := sc_parts_in.nd
  exact (dss_cons (ds_par (i := 1) (j := 2) rfl ndN (de_lst da_nil) (de_lst (da_cons (dv 0) da_nil)))
  (dss_cons (ds_while ho (dt_cmp (op_ne3 (room200 hr)) o3_ne (dv 2) (de_lst da_nil))
  (dss_cons (ds_set (i := 3) ndN (de_pop 2))
  (dss_cons (ds_expr (de_append 1 (dv 3)))
  (dss_one (ds_if (dt_not (dt_val (de_isi1 "str" rfl rfl T.z_isinstance rfl T.z_str bv_str (dv 3))))
  (dss_one (ds_expr (de_extend 2 (de_lst (da_cons (de_ix ix_seq o3_ix (dv 3) de_int) (da_cons (de_ix ix_seq o3_ix (dv 3) de_int) da_nil))))))
  dss_nil)))))
  (dss_one (ds_ret (de_callT call_tuple_of u3_tuple rfl T.z_tuple bv_tuple (dv 1))))))
abbrev st_is_plain : Stmt := top 22
theorem sc_is_plain : FnScope ["statement", "part"] ["statement"] (defScope st_is_plain) := ⟨rfl, rfl, rfl, by decide +kernel, rfl, by decide +kernel, by decide +kernel⟩
def t_is_plain (sp_parts_in : SpD) : TDS :=
(dRet (dNotV (dB (dUn r31Any (dLc (diSeq (dCall 1 sp_parts_in [] (dCons (dVar 0) dNil))) (dgName 1) dYes (dOrV (dBin r3Eq (dVar 1) (dC c_NO))
   (dAndV (dNotV (dB (dUn (r31Isi ["str"]) (dVar 1))))
   (dBin r3Eq (dBin r3Ix (dVar 1) (dC (.int (0)))) (dC c_OR)))) [1])))))
theorem d_is_plain {P : Program} {w : World} {K : PySem.W.Frag} {mg : Str → Option Value} {base : Heap} {k kparts_in : Nat} {sp_parts_in : SpD} (T : Tx K w mg)
    (C_parts_in : Cal P w K mg base kparts_in "parts_in" 1 sp_parts_in []) (l_parts_in : kparts_in ≤ k)
    {f : Addr} (cdv : Value) (A : Around) (outer : List Env) (s : Shared) (H : Hp) (E : XK) (c : C0) (hr : Room k (A.deeper (envOfC "is_plain" (defScope st_is_plain) s.heap.objs.size f cdv)))
    (tk : Takes (cxOf (L2.CX P w) P w K mg base ["statement", "part"] "is_plain" (defScope st_is_plain) f cdv A outer s H E) (WE0 E)) (ho : PassesOwn (model P w) (cxOf (L2.CX P w) P w K mg base ["statement", "part"] "is_plain" (defScope st_is_plain) f cdv A outer s H E).A (cxOf (L2.CX P w) P w K mg base ["statement", "part"] "is_plain" (defScope st_is_plain) f cdv A outer s H E).env (cxOf (L2.CX P w) P w K mg base ["statement", "part"] "is_plain" (defScope st_is_plain) f cdv A outer s H E).xe) : DSs (cxOf (L2.CX P w) P w K mg base ["statement", "part"] "is_plain" (defScope st_is_plain) f cdv A outer s H E) c (WE0 E) (defBody st_is_plain) (t_is_plain sp_parts_in) := by
  have ndN : (cxOf (L2.CX P w) P w K mg base ["statement", "part"] "is_plain" (defScope st_is_plain) f cdv A outer s H E).N.Nodup := sc_is_plain.nd
  exact (dss_one (ds_ret (de_notB (de_callB (cr_any rfl) u3_any rfl T.z_any bv_any (de_lc rfl ndN [("part", 1)] rfl (di_seq (de_c C_parts_in hr (by omega) tk (da_cons (dv 0) da_nil))) (fun _ _ _ _ _ => (dg_name (i := 1) ndN)) (fun _ _ _ _ _ => dts_nil) (fun _ _ _ _ _ => (de_or (de_cmp (op_eq3 (room200 hr)) o3_eq (dv 1) (dgl T.g_NO))
   (de_one (de_and (de_notB (de_isi1 "str" rfl rfl T.z_isinstance rfl T.z_str bv_str (dv 1)))
   (de_one (de_cmp (op_eq3 (room200 hr)) o3_eq (de_ix ix_seq o3_ix (dv 1) de_int) (dgl T.g_OR))))))))))))
abbrev st_is_closure : Stmt := top 25
theorem sc_is_closure : FnScope ["value"] ["value"] (defScope st_is_closure) := ⟨rfl, rfl, rfl, by decide +kernel, rfl, by decide +kernel, by decide +kernel⟩
def t_is_closure (sp_is_within : SpD) : TDS :=
(dSeq (dIfS (dOr (dB (dBin r3Ne (dBin r3Ix (dVar 0) (dC (.int (0)))) (dC (.str "closure"))))
   (dOr (dB (dBin r3Ne (dUn r31Len (dVar 0)) (dC (.int (3)))))
   (dNot (dB (dUn (r31Isi ["tuple"]) (dBin r3Ix (dVar 0) (dC (.int (2)))))))))
  (dRet (dC (.bl false)))
  dNext)
  (dRet (dCall 3 sp_is_within [] (dCons (dBin r3Ix (dVar 0) (dC (.int (1)))) (dCons (dC (.int (0))) (dCons (dC .non) dNil))))))
theorem d_is_closure {P : Program} {w : World} {K : PySem.W.Frag} {mg : Str → Option Value} {base : Heap} {k kis_within : Nat} {sp_is_within : SpD} (T : Tx K w mg)
    (C_is_within : Cal P w K mg base kis_within "is_within" 3 sp_is_within []) (l_is_within : kis_within ≤ k)
    {f : Addr} (cdv : Value) (A : Around) (outer : List Env) (s : Shared) (H : Hp) (E : XK) (c : C0) (hr : Room k (A.deeper (envOfC "is_closure" (defScope st_is_closure) s.heap.objs.size f cdv)))
    (tk : Takes (cxOf (L2.CX P w) P w K mg base ["value"] "is_closure" (defScope st_is_closure) f cdv A outer s H E) (WE0 E)) (ho : PassesOwn (model P w) (cxOf (L2.CX P w) P w K mg base ["value"] "is_closure" (defScope st_is_closure) f cdv A outer s H E).A (cxOf (L2.CX P w) P w K mg base ["value"] "is_closure" (defScope st_is_closure) f cdv A outer s H E).env (cxOf (L2.CX P w) P w K mg base ["value"] "is_closure" (defScope st_is_closure) f cdv A outer s H E).xe) : DSs (cxOf (L2.CX P w) P w K mg base ["value"] "is_closure" (defScope st_is_closure) f cdv A outer s H E) c (WE0 E) (defBody st_is_closure) (t_is_closure sp_is_within) := by
  have ndN : (cxOf (L2.CX P w) P w K mg base ["value"] "is_closure" (defScope st_is_closure) f cdv A outer s H E).N.Nodup := sc_is_closure.nd
  exact (dss_cons (ds_if (dt_bool (dw_or (dt_cmp (op_ne3 (room200 hr)) o3_ne (de_ix ix_seq o3_ix (dv 0) de_int) de_str)
   (dw_or (dt_cmp (op_ne3 (room200 hr)) o3_ne (de_callB call_len u3_len rfl T.z_len bv_len (dv 0)) de_int)
   (dw_or1 (dt_not (dt_val (de_isi1 "tuple" rfl rfl T.z_isinstance rfl T.z_tuple bv_tuple (de_ix ix_seq o3_ix (dv 0) de_int))))))))
  (dss_one (ds_ret de_bl))
  dss_nil)
  (dss_one (ds_ret (de_c C_is_within hr (by omega) tk (da_cons (de_ix ix_seq o3_ix (dv 0) de_int) (da_cons de_int (da_cons de_non da_nil)))))))
abbrev st_is_table : Stmt := top 26
theorem sc_is_table : FnScope ["value", "row"] ["value"] (defScope st_is_table) := ⟨rfl, rfl, rfl, by decide +kernel, rfl, by decide +kernel, by decide +kernel⟩
def t_is_table (sp_is_bare : SpD) : TDS :=
(dSeq (dIfS (dOr (dB (dBin r3Ne (dBin r3Ix (dVar 0) (dC (.int (0)))) (dC (.str "table"))))
   (dOr (dB (dBin r3Ne (dUn r31Len (dVar 0)) (dC (.int (3)))))
   (dNot (dB (dUn (r31Isi ["tuple"]) (dBin r3Ix (dVar 0) (dC (.int (1)))))))))
  (dRet (dC (.bl false)))
  dNext)
  (dRet (dUn r31All (dLc (diSeq (dBin r3Ix (dVar 0) (dC (.int (1))))) (dgName 1) dYes (dAndV (dUn (r31Isi ["tuple"]) (dVar 1))
   (dAndV (dBin r3Eq (dUn r31Len (dVar 1)) (dC (.int (2))))
   (dCall 1 sp_is_bare [] (dCons (dBin r3Ix (dVar 1) (dC (.int (0)))) dNil)))) [1]))))
theorem d_is_table {P : Program} {w : World} {K : PySem.W.Frag} {mg : Str → Option Value} {base : Heap} {k kis_bare : Nat} {sp_is_bare : SpD} (T : Tx K w mg)
    (C_is_bare : Cal P w K mg base kis_bare "is_bare" 1 sp_is_bare []) (l_is_bare : kis_bare ≤ k)
    {f : Addr} (cdv : Value) (A : Around) (outer : List Env) (s : Shared) (H : Hp) (E : XK) (c : C0) (hr : Room k (A.deeper (envOfC "is_table" (defScope st_is_table) s.heap.objs.size f cdv)))
    (tk : Takes (cxOf (L2.CX P w) P w K mg base ["value", "row"] "is_table" (defScope st_is_table) f cdv A outer s H E) (WE0 E)) (ho : PassesOwn (model P w) (cxOf (L2.CX P w) P w K mg base ["value", "row"] "is_table" (defScope st_is_table) f cdv A outer s H E).A (cxOf (L2.CX P w) P w K mg base ["value", "row"] "is_table" (defScope st_is_table) f cdv A outer s H E).env (cxOf (L2.CX P w) P w K mg base ["value", "row"] "is_table" (defScope st_is_table) f cdv A outer s H E).xe) : DSs (cxOf (L2.CX P w) P w K mg base ["value", "row"] "is_table" (defScope st_is_table) f cdv A outer s H E) c (WE0 E) (defBody st_is_table) (t_is_table sp_is_bare) := by
  have ndN : (cxOf (L2.CX P w) P w K mg base ["value", "row"] "is_table" (defScope st_is_table) f cdv A outer s H E).N.Nodup := sc_is_table.nd
  exact (dss_cons (ds_if (dt_bool (dw_or (dt_cmp (op_ne3 (room200 hr)) o3_ne (de_ix ix_seq o3_ix (dv 0) de_int) de_str)
   (dw_or (dt_cmp (op_ne3 (room200 hr)) o3_ne (de_callB call_len u3_len rfl T.z_len bv_len (dv 0)) de_int)
   (dw_or1 (dt_not (dt_val (de_isi1 "tuple" rfl rfl T.z_isinstance rfl T.z_tuple bv_tuple (de_ix ix_seq o3_ix (dv 0) de_int))))))))
  (dss_one (ds_ret de_bl))
  dss_nil)
  (dss_one (ds_ret (de_callB (cr_all rfl) u3_all rfl T.z_all bv_all (de_lc rfl ndN [("row", 1)] rfl (di_seq (de_ix ix_seq o3_ix (dv 0) de_int)) (fun _ _ _ _ _ => (dg_name (i := 1) ndN)) (fun _ _ _ _ _ => dts_nil) (fun _ _ _ _ _ => (de_and (de_isi1 "tuple" rfl rfl T.z_isinstance rfl T.z_tuple bv_tuple (dv 1))
   (de_and (de_cmp (op_eq3 (room200 hr)) o3_eq (de_callB call_len u3_len rfl T.z_len bv_len (dv 1)) de_int)
   (de_one (de_c C_is_bare hr (by omega) takes0 (da_cons (de_ix ix_seq o3_ix (dv 1) de_int) da_nil)))))))))))
abbrev st_is_told : Stmt := top 27
theorem sc_is_told : FnScope ["value", "found"] ["value"] (defScope st_is_told) := ⟨rfl, rfl, rfl, by decide +kernel, rfl, by decide +kernel, by decide +kernel⟩
def t_is_told (sp_statement_in : SpD) : TDS :=
(dSeq (dSet 1 (dCall 1 sp_statement_in [] (dCons (dVar 0) dNil)))
  (dRet (dAndV (dBin r3IsNot (dVar 1) (dC .non))
   (dBin r3Eq (dVar 1) (dVar 0)))))
theorem d_is_told {P : Program} {w : World} {K : PySem.W.Frag} {mg : Str → Option Value} {base : Heap} {k kstatement_in : Nat} {sp_statement_in : SpD} (T : Tx K w mg)
    (C_statement_in : Cal P w K mg base kstatement_in "statement_in" 1 sp_statement_in []) (l_statement_in : kstatement_in ≤ k)
    {f : Addr} (cdv : Value) (A : Around) (outer : List Env) (s : Shared) (H : Hp) (E : XK) (c : C0) (hr : Room k (A.deeper (envOfC "is_told" (defScope st_is_told) s.heap.objs.size f cdv)))
    (tk : Takes (cxOf (L2.CX P w) P w K mg base ["value", "found"] "is_told" (defScope st_is_told) f cdv A outer s H E) (WE0 E)) (ho : PassesOwn (model P w) (cxOf (L2.CX P w) P w K mg base ["value", "found"] "is_told" (defScope st_is_told) f cdv A outer s H E).A (cxOf (L2.CX P w) P w K mg base ["value", "found"] "is_told" (defScope st_is_told) f cdv A outer s H E).env (cxOf (L2.CX P w) P w K mg base ["value", "found"] "is_told" (defScope st_is_told) f cdv A outer s H E).xe) : DSs (cxOf (L2.CX P w) P w K mg base ["value", "found"] "is_told" (defScope st_is_told) f cdv A outer s H E) c (WE0 E) (defBody st_is_told) (t_is_told sp_statement_in) := by
  have ndN : (cxOf (L2.CX P w) P w K mg base ["value", "found"] "is_told" (defScope st_is_told) f cdv A outer s H E).N.Nodup := sc_is_told.nd
  exact (dss_cons (ds_set (i := 1) ndN (de_c C_statement_in hr (by omega) tk (da_cons (dv 0) da_nil)))
  (dss_one (ds_ret (de_and (de_cmp op_isNot o3_isNot (dv 1) de_non)
   (de_one (de_cmp (op_eq3 (room200 hr)) o3_eq (dv 1) (dv 0)))))))
abbrev st_is_device : Stmt := top 28
theorem sc_is_device : FnScope ["value"] ["value"] (defScope st_is_device) := ⟨rfl, rfl, rfl, by decide +kernel, rfl, by decide +kernel, by decide +kernel⟩
def t_is_device (sp_is_told : SpD) (sp_is_plain : SpD) : TDS :=
(dSeq (dIfS (dB (dBin r3Eq (dBin r3Ix (dVar 0) (dC (.int (0)))) (dC (.str "plain"))))
  (dRet (dAndV (dBin r3Eq (dUn r31Len (dVar 0)) (dC (.int (2))))
   (dCall 1 sp_is_told [] (dCons (dBin r3Ix (dVar 0) (dC (.int (1)))) dNil))))
  dNext)
  (dSeq (dIfS (dOr (dB (dBin r3Ne (dBin r3Ix (dVar 0) (dC (.int (0)))) (dC (.str "writer"))))
   (dOr (dB (dBin r3Ne (dUn r31Len (dVar 0)) (dC (.int (4)))))
   (dOr (dNot (dB (dCall 1 sp_is_told [] (dCons (dBin r3Ix (dVar 0) (dC (.int (1)))) dNil))))
   (dNot (dB (dCall 1 sp_is_told [] (dCons (dBin r3Ix (dVar 0) (dC (.int (2)))) dNil)))))))
  (dRet (dC (.bl false)))
  dNext)
  (dRet (dAndV (dCall 1 sp_is_plain [] (dCons (dBin r3Ix (dVar 0) (dC (.int (1)))) dNil))
   (dCall 1 sp_is_plain [] (dCons (dBin r3Ix (dVar 0) (dC (.int (2)))) dNil))))))
theorem d_is_device {P : Program} {w : World} {K : PySem.W.Frag} {mg : Str → Option Value} {base : Heap} {k kis_told kis_plain : Nat} {sp_is_told : SpD} {sp_is_plain : SpD} (T : Tx K w mg)
    (C_is_told : Cal P w K mg base kis_told "is_told" 1 sp_is_told []) (l_is_told : kis_told ≤ k)
    (C_is_plain : Cal P w K mg base kis_plain "is_plain" 1 sp_is_plain []) (l_is_plain : kis_plain ≤ k)
    {f : Addr} (cdv : Value) (A : Around) (outer : List Env) (s : Shared) (H : Hp) (E : XK) (c : C0) (hr : Room k (A.deeper (envOfC "is_device" (defScope st_is_device) s.heap.objs.size f cdv)))
    (tk : Takes (cxOf (L2.CX P w) P w K mg base ["value"] "is_device" (defScope st_is_device) f cdv A outer s H E) (WE0 E)) (ho : PassesOwn (model P w) (cxOf (L2.CX P w) P w K mg base ["value"] "is_device" (defScope st_is_device) f cdv A outer s H E).A (cxOf (L2.CX P w) P w K mg base ["value"] "is_device" (defScope st_is_device) f cdv A outer s H E).env (cxOf (L2.CX P w) P w K mg base ["value"] "is_device" (defScope st_is_device) f cdv A outer s H E).xe) : DSs (cxOf (L2.CX P w) P w K mg base ["value"] "is_device" (defScope st_is_device) f cdv A outer s H E) c (WE0 E) (defBody st_is_device) (t_is_device sp_is_told sp_is_plain) := by
  have ndN : (cxOf (L2.CX P w) P w K mg base ["value"] "is_device" (defScope st_is_device) f cdv A outer s H E).N.Nodup := sc_is_device.nd
  exact (dss_cons (ds_if (dt_cmp (op_eq3 (room200 hr)) o3_eq (de_ix ix_seq o3_ix (dv 0) de_int) de_str)
  (dss_one (ds_ret (de_and (de_cmp (op_eq3 (room200 hr)) o3_eq (de_callB call_len u3_len rfl T.z_len bv_len (dv 0)) de_int)
   (de_one (de_c C_is_told hr (by omega) tk (da_cons (de_ix ix_seq o3_ix (dv 0) de_int) da_nil))))))
  dss_nil)
  (dss_cons (ds_if (dt_bool (dw_or (dt_cmp (op_ne3 (room200 hr)) o3_ne (de_ix ix_seq o3_ix (dv 0) de_int) de_str)
   (dw_or (dt_cmp (op_ne3 (room200 hr)) o3_ne (de_callB call_len u3_len rfl T.z_len bv_len (dv 0)) de_int)
   (dw_or (dt_not (dt_val (de_c C_is_told hr (by omega) tk (da_cons (de_ix ix_seq o3_ix (dv 0) de_int) da_nil))))
   (dw_or1 (dt_not (dt_val (de_c C_is_told hr (by omega) tk (da_cons (de_ix ix_seq o3_ix (dv 0) de_int) da_nil)))))))))
  (dss_one (ds_ret de_bl))
  dss_nil)
  (dss_one (ds_ret (de_and (de_c C_is_plain hr (by omega) tk (da_cons (de_ix ix_seq o3_ix (dv 0) de_int) da_nil))
   (de_one (de_c C_is_plain hr (by omega) tk (da_cons (de_ix ix_seq o3_ix (dv 0) de_int) da_nil))))))))
abbrev st_values_in : Stmt := top 29
theorem sc_values_in : FnScope ["value", "row", "one"] ["value"] (defScope st_values_in) := ⟨rfl, rfl, rfl, by decide +kernel, rfl, by decide +kernel, by decide +kernel⟩
def t_values_in (sp_is_name : SpD) (sp_is_closure : SpD) (sp_is_table : SpD) (sp_is_device : SpD) : TDS :=
(dSeq (dIfS (dB (dBin r3Eq (dVar 0) (dC (.str "unit"))))
  (dRet (dLst dNil))
  dNext)
  (dSeq (dIfS (dOr (dNot (dB (dUn (r31Isi ["tuple"]) (dVar 0))))
   (dOr (dB (dBin r3Lt (dUn r31Len (dVar 0)) (dC (.int (2)))))
   (dNot (dB (dUn (r31Isi ["str"]) (dBin r3Ix (dVar 0) (dC (.int (0)))))))))
  (dRet (dC .non))
  dNext)
  (dSeq (dIfS (dB (dBin r3Eq (dBin r3Ix (dVar 0) (dC (.int (0)))) (dC (.str "token"))))
  (dRet (dIf (dAnd (dB (dBin r3Eq (dUn r31Len (dVar 0)) (dC (.int (3)))))
   (dB (dCall 1 sp_is_name [] (dCons (dBin r3Ix (dVar 0) (dC (.int (1)))) dNil)))) (dLst dNil) (dC .non)))
  dNext)
  (dSeq (dIfS (dB (dInK k_INNER (dBin r3Ix (dVar 0) (dC (.int (0))))))
  (dRet (dIf (dB (dBin r3Eq (dUn r31Len (dVar 0)) (dBin r3Plus (dC (.int (1))) (dIxK k_INNER (dBin r3Ix (dVar 0) (dC (.int (0)))))))) (dUn r31List (dSl (dVar 0) (dPart (dC (.int (1)))) dNoPart)) (dC .non)))
  dNext)
  (dSeq (dIfS (dB (dCall 1 sp_is_closure [] (dCons (dVar 0) dNil)))
  (dRet (dUn r31List (dBin r3Ix (dVar 0) (dC (.int (2))))))
  dNext)
  (dSeq (dIfS (dB (dCall 1 sp_is_table [] (dCons (dVar 0) dNil)))
  (dRet (dBin r3Plus (dLc2 (diSeq (dBin r3Ix (dVar 0) (dC (.int (1))))) (dgName 1) dYes (diSeq (dVar 1)) (dgName 2) dYes (dVar 2) [1, 2] [2]) (dIf (dB (dBin r3Is (dBin r3Ix (dVar 0) (dC (.int (2)))) (dC .non))) (dLst dNil) (dLst (dCons (dBin r3Ix (dVar 0) (dC (.int (2)))) dNil)))))
  dNext)
  (dRet (dIf (dB (dCall 1 sp_is_device [] (dCons (dVar 0) dNil))) (dLst dNil) (dC .non)))))))))
theorem d_values_in {P : Program} {w : World} {K : PySem.W.Frag} {mg : Str → Option Value} {base : Heap} {k kis_name kis_closure kis_table kis_device : Nat} {sp_is_name : SpD} {sp_is_closure : SpD} {sp_is_table : SpD} {sp_is_device : SpD} (T : Tx K w mg)
    (C_is_name : Cal P w K mg base kis_name "is_name" 1 sp_is_name []) (l_is_name : kis_name ≤ k)
    (C_is_closure : Cal P w K mg base kis_closure "is_closure" 1 sp_is_closure []) (l_is_closure : kis_closure ≤ k)
    (C_is_table : Cal P w K mg base kis_table "is_table" 1 sp_is_table []) (l_is_table : kis_table ≤ k)
    (C_is_device : Cal P w K mg base kis_device "is_device" 1 sp_is_device []) (l_is_device : kis_device ≤ k)
    {f : Addr} (cdv : Value) (A : Around) (outer : List Env) (s : Shared) (H : Hp) (E : XK) (c : C0) (hr : Room k (A.deeper (envOfC "values_in" (defScope st_values_in) s.heap.objs.size f cdv)))
    (tk : Takes (cxOf (L2.CX P w) P w K mg base ["value", "row", "one"] "values_in" (defScope st_values_in) f cdv A outer s H E) (WE0 E)) (ho : PassesOwn (model P w) (cxOf (L2.CX P w) P w K mg base ["value", "row", "one"] "values_in" (defScope st_values_in) f cdv A outer s H E).A (cxOf (L2.CX P w) P w K mg base ["value", "row", "one"] "values_in" (defScope st_values_in) f cdv A outer s H E).env (cxOf (L2.CX P w) P w K mg base ["value", "row", "one"] "values_in" (defScope st_values_in) f cdv A outer s H E).xe) : DSs (cxOf (L2.CX P w) P w K mg base ["value", "row", "one"] "values_in" (defScope st_values_in) f cdv A outer s H E) c (WE0 E) (defBody st_values_in) (t_values_in sp_is_name sp_is_closure sp_is_table sp_is_device) := by
  have ndN : (cxOf (L2.CX P w) P w K mg base ["value", "row", "one"] "values_in" (defScope st_values_in) f cdv A outer s H E).N.Nodup := sc_values_in.nd
  exact (dss_cons (ds_if (dt_cmp (op_eq3 (room200 hr)) o3_eq (dv 0) de_str)
  (dss_one (ds_ret (de_lst da_nil)))
  dss_nil)
  (dss_cons (ds_if (dt_bool (dw_or (dt_not (dt_val (de_isi1 "tuple" rfl rfl T.z_isinstance rfl T.z_tuple bv_tuple (dv 0))))
   (dw_or (dt_cmp op_lt o3_bl0 (de_callB call_len u3_len rfl T.z_len bv_len (dv 0)) de_int)
   (dw_or1 (dt_not (dt_val (de_isi1 "str" rfl rfl T.z_isinstance rfl T.z_str bv_str (de_ix ix_seq o3_ix (dv 0) de_int))))))))
  (dss_one (ds_ret de_non))
  dss_nil)
  (dss_cons (ds_if (dt_cmp (op_eq3 (room200 hr)) o3_eq (de_ix ix_seq o3_ix (dv 0) de_int) de_str)
  (dss_one (ds_ret (de_if (dt_bool (dw_and (dt_cmp (op_eq3 (room200 hr)) o3_eq (de_callB call_len u3_len rfl T.z_len bv_len (dv 0)) de_int)
   (dw_and1 (dt_val (de_c C_is_name hr (by omega) tk (da_cons (de_ix ix_seq o3_ix (dv 0) de_int) da_nil)))))) (de_lst da_nil) de_non)))
  dss_nil)
  (dss_cons (ds_if (dt_inK T.k_INNER (de_ix ix_seq o3_ix (dv 0) de_int))
  (dss_one (ds_ret (de_if (dt_cmp (op_eq3 (room200 hr)) o3_eq (de_callB call_len u3_len rfl T.z_len bv_len (dv 0)) (de_op op_plus o3_plus de_int (de_ixK T.k_INNER (de_ix ix_seq o3_ix (dv 0) de_int)))) (de_callT call_list_of u3_list rfl T.z_list bv_list (de_slice (dv 0) (do_some de_int) do_none)) de_non)))
  dss_nil)
  (dss_cons (ds_if (dt_val (de_c C_is_closure hr (by omega) tk (da_cons (dv 0) da_nil)))
  (dss_one (ds_ret (de_callT call_list_of u3_list rfl T.z_list bv_list (de_ix ix_seq o3_ix (dv 0) de_int))))
  dss_nil)
  (dss_cons (ds_if (dt_val (de_c C_is_table hr (by omega) tk (da_cons (dv 0) da_nil)))
  (dss_one (ds_ret (de_op op_plus o3_plus (de_lc2 rfl ndN [("row", 1), ("one", 2)] [2] rfl (di_seq (de_ix ix_seq o3_ix (dv 0) de_int)) (fun _ _ _ _ _ => (dg_name (i := 1) ndN)) (fun _ _ _ _ _ => dts_nil) (fun _ _ _ _ _ => (di_seq (dv 1))) (fun _ _ _ _ _ => (dg_name (i := 2) ndN)) (fun _ _ _ _ _ => dts_nil) (fun _ _ _ _ _ => (dv 2))) (de_if (dt_cmp op_is o3_is (de_ix ix_seq o3_ix (dv 0) de_int) de_non) (de_lst da_nil) (de_lst (da_cons (de_ix ix_seq o3_ix (dv 0) de_int) da_nil))))))
  dss_nil)
  (dss_one (ds_ret (de_if (dt_val (de_c C_is_device hr (by omega) tk (da_cons (dv 0) da_nil))) (de_lst da_nil) de_non)))))))))
abbrev st_is_bare : Stmt := top 30
theorem sc_is_bare : FnScope ["value", "line", "here", "some"] ["value"] (defScope st_is_bare) := ⟨rfl, rfl, rfl, by decide +kernel, rfl, by decide +kernel, by decide +kernel⟩
def w1_is_bare (sp_values_in : SpD) : TDT :=
(dB (dBin r3Ne (dVar 1) (dLst dNil)))
def b1_is_bare (sp_values_in : SpD) : TDS :=
(dSeq (dSet 2 (dPop 1))
  (dSeq (dSet 3 (dCall 1 sp_values_in [] (dCons (dVar 2) dNil)))
  (dSeq (dIfS (dOr (dB (dBin r3Is (dVar 3) (dC .non)))
   (dAnd (dB (dBin r3Ne (dVar 2) (dC (.str "unit"))))
   (dB (dBin r3NotIn (dBin r3Ix (dVar 2) (dC (.int (0)))) (dTup (dCons (dC (.str "token")) (dStarK k_INNER dNil)))))))
  (dRet (dC (.bl false)))
  dNext)
  (dDrop (dExt 1 (dVar 3))))))
def t_is_bare (sp_values_in : SpD) : TDS :=
(dSeq (dSet 1 (dLst (dCons (dVar 0) dNil)))
  (dSeq (dWhile (w1_is_bare sp_values_in) (b1_is_bare sp_values_in))
  (dRet (dC (.bl true)))))
theorem d_is_bare {P : Program} {w : World} {K : PySem.W.Frag} {mg : Str → Option Value} {base : Heap} {k kvalues_in : Nat} {sp_values_in : SpD} (T : Tx K w mg)
    (C_values_in : Cal P w K mg base kvalues_in "values_in" 1 sp_values_in []) (l_values_in : kvalues_in ≤ k)
    {f : Addr} (cdv : Value) (A : Around) (outer : List Env) (s : Shared) (H : Hp) (E : XK) (c : C0) (hr : Room k (A.deeper (envOfC "is_bare" (defScope st_is_bare) s.heap.objs.size f cdv)))
    (tk : Takes (cxOf (L2.CX P w) P w K mg base ["value", "line", "here", "some"] "is_bare" (defScope st_is_bare) f cdv A outer s H E) (WE0 E)) (ho : PassesOwn (model P w) (cxOf (L2.CX P w) P w K mg base ["value", "line", "here", "some"] "is_bare" (defScope st_is_bare) f cdv A outer s H E).A (cxOf (L2.CX P w) P w K mg base ["value", "line", "here", "some"] "is_bare" (defScope st_is_bare) f cdv A outer s H E).env (cxOf (L2.CX P w) P w K mg base ["value", "line", "here", "some"] "is_bare" (defScope st_is_bare) f cdv A outer s H E).xe) : DSs (cxOf (L2.CX P w) P w K mg base ["value", "line", "here", "some"] "is_bare" (defScope st_is_bare) f cdv A outer s H E) c (WE0 E) (defBody st_is_bare) (t_is_bare sp_values_in) := by
  have ndN : (cxOf (L2.CX P w) P w K mg base ["value", "line", "here", "some"] "is_bare" (defScope st_is_bare) f cdv A outer s H E).N.Nodup := sc_is_bare.nd
  exact (dss_cons (ds_set (i := 1) ndN (de_lst (da_cons (dv 0) da_nil)))
  (dss_cons (ds_while ho (dt_cmp (op_ne3 (room200 hr)) o3_ne (dv 1) (de_lst da_nil))
  (dss_cons (ds_set (i := 2) ndN (de_pop 1))
  (dss_cons (ds_set (i := 3) ndN (de_c C_values_in hr (by omega) tk (da_cons (dv 2) da_nil)))
  (dss_cons (ds_if (dt_bool (dw_or (dt_cmp op_is o3_is (dv 3) de_non)
   (dw_or1 (dt_bool (dw_and (dt_cmp (op_ne3 (room200 hr)) o3_ne (dv 2) de_str)
   (dw_and1 (dt_cmp op_notIn o3_notIn (de_ix ix_seq o3_ix (dv 2) de_int) (de_tup (da_cons de_str (da_starK rfl T.k_INNER da_nil))))))))))
  (dss_one (ds_ret de_bl))
  dss_nil)
  (dss_one (ds_expr (de_extend 1 (dv 3))))))))
  (dss_one (ds_ret de_bl))))
abbrev st_is_value : Stmt := top 31
theorem sc_is_value : FnScope ["value", "line", "some"] ["value"] (defScope st_is_value) := ⟨rfl, rfl, rfl, by decide +kernel, rfl, by decide +kernel, by decide +kernel⟩
def w1_is_value (sp_values_in : SpD) : TDT :=
(dB (dBin r3Ne (dVar 1) (dLst dNil)))
def b1_is_value (sp_values_in : SpD) : TDS :=
(dSeq (dSet 2 (dCall 1 sp_values_in [] (dCons (dPop 1) dNil)))
  (dSeq (dIfS (dB (dBin r3Is (dVar 2) (dC .non)))
  (dRet (dC (.bl false)))
  dNext)
  (dDrop (dExt 1 (dVar 2)))))
def t_is_value (sp_values_in : SpD) : TDS :=
(dSeq (dSet 1 (dLst (dCons (dVar 0) dNil)))
  (dSeq (dWhile (w1_is_value sp_values_in) (b1_is_value sp_values_in))
  (dRet (dC (.bl true)))))
theorem d_is_value {P : Program} {w : World} {K : PySem.W.Frag} {mg : Str → Option Value} {base : Heap} {k kvalues_in : Nat} {sp_values_in : SpD} (T : Tx K w mg)
    (C_values_in : Cal P w K mg base kvalues_in "values_in" 1 sp_values_in []) (l_values_in : kvalues_in ≤ k)
    {f : Addr} (cdv : Value) (A : Around) (outer : List Env) (s : Shared) (H : Hp) (E : XK) (c : C0) (hr : Room k (A.deeper (envOfC "is_value" (defScope st_is_value) s.heap.objs.size f cdv)))
    (tk : Takes (cxOf (L2.CX P w) P w K mg base ["value", "line", "some"] "is_value" (defScope st_is_value) f cdv A outer s H E) (WE0 E)) (ho : PassesOwn (model P w) (cxOf (L2.CX P w) P w K mg base ["value", "line", "some"] "is_value" (defScope st_is_value) f cdv A outer s H E).A (cxOf (L2.CX P w) P w K mg base ["value", "line", "some"] "is_value" (defScope st_is_value) f cdv A outer s H E).env (cxOf (L2.CX P w) P w K mg base ["value", "line", "some"] "is_value" (defScope st_is_value) f cdv A outer s H E).xe) : DSs (cxOf (L2.CX P w) P w K mg base ["value", "line", "some"] "is_value" (defScope st_is_value) f cdv A outer s H E) c (WE0 E) (defBody st_is_value) (t_is_value sp_values_in) := by
  have ndN : (cxOf (L2.CX P w) P w K mg base ["value", "line", "some"] "is_value" (defScope st_is_value) f cdv A outer s H E).N.Nodup := sc_is_value.nd
  exact (dss_cons (ds_set (i := 1) ndN (de_lst (da_cons (dv 0) da_nil)))
  (dss_cons (ds_while ho (dt_cmp (op_ne3 (room200 hr)) o3_ne (dv 1) (de_lst da_nil))
  (dss_cons (ds_set (i := 2) ndN (de_c C_values_in hr (by omega) tk (da_cons (de_pop 1) da_nil)))
  (dss_cons (ds_if (dt_cmp op_is o3_is (dv 2) de_non)
  (dss_one (ds_ret de_bl))
  dss_nil)
  (dss_one (ds_expr (de_extend 1 (dv 2)))))))
  (dss_one (ds_ret de_bl))))
abbrev st__law_well : Stmt := top 33
theorem sc__law_well : FnScope ["script", "cell"] ["script"] (defScope st__law_well) := ⟨rfl, rfl, rfl, by decide +kernel, rfl, by decide +kernel, by decide +kernel⟩
def t__law_well : TDE := (dLst (dCons (dLc (diSeq (dSlS (dVar 0) dNoPart (dPart (dC (.int (60)))))) (dgName 1) dYes (dUn r31Int (dVar 1)) [1]) (dCons (dC (.int (0))) (dCons (dC (.int (0))) dNil))))
theorem d__law_well {P : Program} {w : World} {K : PySem.W.Frag} {mg : Str → Option Value} {base : Heap} {k : Nat} (T : Tx K w mg)
    {f : Addr} (cdv : Value) (A : Around) (outer : List Env) (s : Shared) (H : Hp) (E : XK) (c : C0) (hr : Room k (A.deeper (envOfC "_law_well" (defScope st__law_well) s.heap.objs.size f cdv)))
    (tk : Takes (cxOf (L2.CX P w) P w K mg base ["script", "cell"] "_law_well" (defScope st__law_well) f cdv A outer s H E) (WE0 E)) (ho : PassesOwn (model P w) (cxOf (L2.CX P w) P w K mg base ["script", "cell"] "_law_well" (defScope st__law_well) f cdv A outer s H E).A (cxOf (L2.CX P w) P w K mg base ["script", "cell"] "_law_well" (defScope st__law_well) f cdv A outer s H E).env (cxOf (L2.CX P w) P w K mg base ["script", "cell"] "_law_well" (defScope st__law_well) f cdv A outer s H E).xe) : ∃ ex pos, defBody st__law_well = [.Return (some ex) pos] ∧ DE (cxOf (L2.CX P w) P w K mg base ["script", "cell"] "_law_well" (defScope st__law_well) f cdv A outer s H E) c (WE0 E) ex t__law_well := by
  have ndN : (cxOf (L2.CX P w) P w K mg base ["script", "cell"] "_law_well" (defScope st__law_well) f cdv A outer s H E).N.Nodup := sc__law_well.nd
  exact ⟨_, _, rfl, (de_lst (da_cons (de_lc rfl ndN [("cell", 1)] rfl (di_seq (de_sliceS (dv 0) do_none (do_some de_int))) (fun _ _ _ _ _ => (dg_name (i := 1) ndN)) (fun _ _ _ _ _ => dts_nil) (fun _ _ _ _ _ => (de_callT call_int1 u3_int rfl T.z_int bv_int (dv 1)))) (da_cons de_int (da_cons de_int da_nil))))⟩
abbrev st__law_draw : Stmt := top 34
theorem sc__law_draw : FnScope ["well", "many", "rest", "turn", "cell", "blend"] ["well", "many"] (defScope st__law_draw) := ⟨rfl, rfl, rfl, by decide +kernel, rfl, by decide +kernel, by decide +kernel⟩
def u__law_draw : TDS :=
(dSeq (dIfS (dAnd (dB (dBin r3Lt (dVar 3) (dUn r31Len (dWix 0 0))))
   (dB (dBin r3Ge (dUn r31Abs (dVar 4)) (dBin r3PowG (dC (.int (10))) (dC (.int (18)))))))
  (dSeq (dSet 2 (dBin r3Plus (dBin r3Star (dC (.int (2))) (dBin r3Sub (dUn r31Abs (dVar 4)) (dBin r3PowG (dC (.int (10))) (dC (.int (18)))))) (dUn r31Int (dBin r3Lt (dVar 4) (dC (.int (0)))))))
  (dSeq (dWset 0 2 (dBin r3Div (dVar 2) (dVar 1)))
  (dRet (dBin r3Mod (dUn r31Int (dVar 2)) (dVar 1)))))
  dNext)
  (dSeq (dSet 5 (dBin r3Mod (dUn r31Int (dBin r3PowG (dBin r3Plus (dBin r3Plus (dBin r3Mod (dUn r31Int (dVar 4)) (dC (.int (2147483549)))) (dBin r3Star (dC (.int (42625))) (dVar 3))) (dC (.int (9205)))) (dC (.int (5))))) (dC (.int (2147483587)))))
  (dSeq (dSet 5 (dBin r3Mod (dUn r31Int (dBin r3PowG (dBin r3Plus (dBin r3Plus (dBin r3Star (dVar 5) (dBin r3Plus (dBin r3Star (dC (.int (2))) (dVar 3)) (dC (.int (5719))))) (dBin r3Star (dBin r3Star (dC (.int (50905))) (dVar 3)) (dVar 3))) (dC (.int (42625)))) (dC (.int (3))))) (dC (.int (2147483629)))))
  (dRet (dBin r3Mod (dUn r31Int (dBin r3Div (dVar 5) (dC (.int (64))))) (dVar 1))))))
def t__law_draw : TDS :=
(dSeq (dIfS (dB (dBin r3Lt (dVar 1) (dC (.int (2)))))
  (dRet (dC (.int (0))))
  dNext)
  (dSeq (dIfS (dB (dBin r3Gt (dWix 0 2) (dC (.int (0)))))
  (dSeq (dSet 2 (dUn r31Int (dWix 0 2)))
  (dSeq (dWset 0 2 (dBin r3Div (dVar 2) (dVar 1)))
  (dRet (dBin r3Mod (dUn r31Int (dVar 2)) (dVar 1)))))
  dNext)
  (dSeq (dSet 3 (dWix 0 1))
  (dSeq (dWset 0 1 (dBin r3Plus (dVar 3) (dC (.int (1)))))
  (dSeq (dSet 4 (dBin r3Plus (dBin r3Star (dC (.int (50905))) (dVar 3)) (dC (.int (9205)))))
  (dSeq (dIfS (dB (dBin r3Ne (dWix 0 0) (dLst dNil)))
  (dSet 4 (dBin r3Ix (dWix 0 0) (dBin r3Mod (dUn r31Int (dVar 3)) (dUn r31Len (dWix 0 0)))))
  dNext)
  u__law_draw))))))
theorem d__law_draw {P : Program} {w : World} {K : PySem.W.Frag} {mg : Str → Option Value} {base : Heap} {k : Nat} (T : Tx K w mg)
    {f : Addr} (cdv : Value) (A : Around) (outer : List Env) (s : Shared) (H : Hp) (E : XK) (c : C0) (hr : Room k (A.deeper (envOfC "_law_draw" (defScope st__law_draw) s.heap.objs.size f cdv)))
    (tk : Takes (cxOf (L2.CX P w) P w K mg base ["well", "many", "rest", "turn", "cell", "blend"] "_law_draw" (defScope st__law_draw) f cdv A outer s H E) (WE0 E)) (ho : PassesOwn (model P w) (cxOf (L2.CX P w) P w K mg base ["well", "many", "rest", "turn", "cell", "blend"] "_law_draw" (defScope st__law_draw) f cdv A outer s H E).A (cxOf (L2.CX P w) P w K mg base ["well", "many", "rest", "turn", "cell", "blend"] "_law_draw" (defScope st__law_draw) f cdv A outer s H E).env (cxOf (L2.CX P w) P w K mg base ["well", "many", "rest", "turn", "cell", "blend"] "_law_draw" (defScope st__law_draw) f cdv A outer s H E).xe) : DSs (cxOf (L2.CX P w) P w K mg base ["well", "many", "rest", "turn", "cell", "blend"] "_law_draw" (defScope st__law_draw) f cdv A outer s H E) c (WE0 E) (defBody st__law_draw) (t__law_draw) := by
  have ndN : (cxOf (L2.CX P w) P w K mg base ["well", "many", "rest", "turn", "cell", "blend"] "_law_draw" (defScope st__law_draw) f cdv A outer s H E).N.Nodup := sc__law_draw.nd
  exact (dss_cons (ds_if (dt_cmp op_lt o3_bl0 (dv 1) de_int)
  (dss_one (ds_ret de_int))
  dss_nil)
  (dss_cons (ds_if (dt_cmp op_gt o3_bl0 (de_wix 0) de_int)
  (dss_cons (ds_set (i := 2) ndN (de_callT call_int1 u3_int rfl T.z_int bv_int (de_wix 0)))
  (dss_cons (ds_wset 0 (de_op op_fdiv o3_int (dv 2) (dv 1)))
  (dss_one (ds_ret (de_op op_mod o3_int (de_callT call_int1 u3_int rfl T.z_int bv_int (dv 2)) (dv 1))))))
  dss_nil)
  (dss_cons (ds_set (i := 3) ndN (de_wix 0))
  (dss_cons (ds_wset 0 (de_op op_plus o3_plus (dv 3) de_int))
  (dss_cons (ds_set (i := 4) ndN (de_op op_plus o3_plus (de_op op_star o3_star de_int (dv 3)) de_int))
  (dss_cons (ds_if (dt_cmp (op_ne3 (room200 hr)) o3_ne (de_wix 0) (de_lst da_nil))
  (dss_one (ds_set (i := 4) ndN (de_ix ix_seq o3_ix (de_wix 0) (de_op op_mod o3_int (de_callT call_int1 u3_int rfl T.z_int bv_int (dv 3)) (de_callB call_len u3_len rfl T.z_len bv_len (de_wix 0))))))
  dss_nil)
  (dss_cons (ds_if (dt_bool (dw_and (dt_cmp op_lt o3_bl0 (dv 3) (de_callB call_len u3_len rfl T.z_len bv_len (de_wix 0)))
   (dw_and1 (dt_cmp op_ge o3_bl0 (de_callB call_abs u3_abs rfl T.z_abs bv_abs (dv 4)) (de_op op_powG o3_int de_int de_int)))))
  (dss_cons (ds_set (i := 2) ndN (de_op op_plus o3_plus (de_op op_star o3_star de_int (de_op op_sub o3_int0 (de_callB call_abs u3_abs rfl T.z_abs bv_abs (dv 4)) (de_op op_powG o3_int de_int de_int))) (de_callT call_int1 u3_int rfl T.z_int bv_int (de_cmp op_lt o3_bl0 (dv 4) de_int))))
  (dss_cons (ds_wset 0 (de_op op_fdiv o3_int (dv 2) (dv 1)))
  (dss_one (ds_ret (de_op op_mod o3_int (de_callT call_int1 u3_int rfl T.z_int bv_int (dv 2)) (dv 1))))))
  dss_nil)
  (dss_cons (ds_set (i := 5) ndN (de_op op_mod o3_int (de_callT call_int1 u3_int rfl T.z_int bv_int (de_op op_powG o3_int (de_op op_plus o3_plus (de_op op_plus o3_plus (de_op op_mod o3_int (de_callT call_int1 u3_int rfl T.z_int bv_int (dv 4)) de_int) (de_op op_star o3_star de_int (dv 3))) de_int) de_int)) de_int))
  (dss_cons (ds_set (i := 5) ndN (de_op op_mod o3_int (de_callT call_int1 u3_int rfl T.z_int bv_int (de_op op_powG o3_int (de_op op_plus o3_plus (de_op op_plus o3_plus (de_op op_star o3_star (dv 5) (de_op op_plus o3_plus (de_op op_star o3_star de_int (dv 3)) de_int)) (de_op op_star o3_star (de_op op_star o3_star de_int (dv 3)) (dv 3))) de_int) de_int)) de_int))
  (dss_one (ds_ret (de_op op_mod o3_int (de_callT call_int1 u3_int rfl T.z_int bv_int (de_op op_fdiv o3_int (dv 5) de_int)) (dv 1)))))))))))))
abbrev st__law_one : Stmt := top 35
theorem sc__law_one : FnScope ["well", "some"] ["well", "some"] (defScope st__law_one) := ⟨rfl, rfl, rfl, by decide +kernel, rfl, by decide +kernel, by decide +kernel⟩
def t__law_one (sp__law_draw : SpD) : TDS :=
(dRet (dBin r3Ix (dVar 1) (dCallR 2 sp__law_draw (dRef 0 (dCons (dUn r31Len (dVar 1)) dNil)))))
theorem d__law_one {P : Program} {w : World} {K : PySem.W.Frag} {mg : Str → Option Value} {base : Heap} {k k_law_draw : Nat} {sp__law_draw : SpD} (T : Tx K w mg)
    (C__law_draw : Cal P w K mg base k_law_draw "_law_draw" 2 sp__law_draw []) (l__law_draw : k_law_draw ≤ k)
    {f : Addr} (cdv : Value) (A : Around) (outer : List Env) (s : Shared) (H : Hp) (E : XK) (c : C0) (hr : Room k (A.deeper (envOfC "_law_one" (defScope st__law_one) s.heap.objs.size f cdv)))
    (tk : Takes (cxOf (L2.CX P w) P w K mg base ["well", "some"] "_law_one" (defScope st__law_one) f cdv A outer s H E) (WE0 E)) (ho : PassesOwn (model P w) (cxOf (L2.CX P w) P w K mg base ["well", "some"] "_law_one" (defScope st__law_one) f cdv A outer s H E).A (cxOf (L2.CX P w) P w K mg base ["well", "some"] "_law_one" (defScope st__law_one) f cdv A outer s H E).env (cxOf (L2.CX P w) P w K mg base ["well", "some"] "_law_one" (defScope st__law_one) f cdv A outer s H E).xe) : DSs (cxOf (L2.CX P w) P w K mg base ["well", "some"] "_law_one" (defScope st__law_one) f cdv A outer s H E) c (WE0 E) (defBody st__law_one) (t__law_one sp__law_draw) := by
  have ndN : (cxOf (L2.CX P w) P w K mg base ["well", "some"] "_law_one" (defScope st__law_one) f cdv A outer s H E).N.Nodup := sc__law_one.nd
  exact (dss_one (ds_ret (de_ix ix_seq o3_ix (dv 1) (de_cr C__law_draw hr (by omega) tk (da_ref 0 (da_cons (de_callB call_len u3_len rfl T.z_len bv_len (dv 1)) da_nil))))))
abbrev st__law_value : Stmt := top 36
theorem sc__law_value : FnScope ["well", "deep", "way", "one", "is_one", "two", "is_two", "first"] ["well", "deep"] (defScope st__law_value) := ⟨rfl, rfl, rfl, by decide +kernel, rfl, by decide +kernel, by decide +kernel⟩
def t__law_value (sp__law_draw : SpD) (sp__law_one : SpD) (sp__law_value : SpD) : TDS :=
(dSeq (dSet 2 (dCallR 2 sp__law_draw (dRef 0 (dCons (dIf (dB (dBin r3Gt (dVar 1) (dC (.int (0))))) (dC (.int (10))) (dC (.int (5)))) dNil))))
  (dSeq (dIfS (dB (dBin r3Lt (dVar 2) (dC (.int (2)))))
  (dRet (dTup (dCons (dCallR 2 sp__law_one (dRef 0 (dCons (dLst (dCons (dC (.str "unit")) (dCons (dTup (dCons (dC (.str "token")) (dCons (dC (.str "a")) (dCons (dC (.int (0))) dNil)))) (dCons (dTup (dCons (dC (.str "token")) (dCons (dC (.str "zz")) (dCons (dC .non) dNil)))) (dCons (dTup (dCons (dC (.str "token")) (dCons (dC (.str "a")) (dCons (dTup (dCons (dC (.str "call")) (dCons (dLst (dCons (dC (.int (1))) dNil)) (dCons dDict0 dNil)))) dNil)))) dNil))))) dNil))) (dCons (dC (.bl true)) dNil))))
  dNext)
  (dSeq (dIfS (dB (dBin r3Eq (dVar 2) (dC (.int (2)))))
  (dRet (dTup (dCons (dTup (dCons (dC (.str "plain")) (dCons (dCallR 2 sp__law_one (dRef 0 (dCons (dLst (dCons (dC (.str "a")) (dCons (dC (.str "no")) (dCons (dTup (dCons (dC (.str "gives")) (dCons (dC (.str "a")) (dCons (dTup (dCons (dC (.str "or")) (dCons (dC (.str "b")) (dCons (dC (.str "no")) dNil)))) dNil)))) dNil)))) dNil))) dNil))) (dCons (dC (.bl false)) dNil))))
  dNext)
  (dSeq (dIfS (dB (dBin r3Eq (dVar 2) (dC (.int (3)))))
  (dRet (dTup (dCons (dTup (dCons (dC (.str "writer")) (dCons (dCallR 2 sp__law_one (dRef 0 (dCons (dLst (dCons (dC (.str "a")) (dCons (dTup (dCons (dC (.str "and")) (dCons (dC (.str "a")) (dCons (dC (.str "b")) dNil)))) dNil))) dNil))) (dCons (dCallR 2 sp__law_one (dRef 0 (dCons (dLst (dCons (dC (.str "yes")) (dCons (dTup (dCons (dC (.str "gives")) (dCons (dC (.str "a")) (dCons (dC (.str "b")) dNil)))) dNil))) dNil))) (dCons (dCallR 2 sp__law_one (dRef 0 (dCons (dLst (dCons (dC .non) (dCons (dC (.str "x")) (dCons (dTup (dCons (dC (.str "level")) (dCons (dC (.int (3))) dNil))) (dCons (dLst (dCons (dC (.int (5))) dNil)) dNil))))) dNil))) dNil))))) (dCons (dC (.bl false)) dNil))))
  dNext)
  (dSeq (dIfS (dB (dBin r3Eq (dVar 2) (dC (.int (4)))))
  (dRet (dTup (dCons (dTup (dCons (dC (.str "closure")) (dCons (dCallR 2 sp__law_one (dRef 0 (dCons (dLst (dCons (dC (.int (0))) (dCons (dC (.int (7))) (dCons (dBin r3PowG (dC (.int (10))) (dC (.int (30)))) dNil)))) dNil))) (dCons (dTup dNil) dNil)))) (dCons (dC (.bl false)) dNil))))
  dNext)
  (dSeq (dAsg (dCallR 2 sp__law_value (dRef 0 (dCons (dBin r3Sub (dVar 1) (dC (.int (1)))) dNil))) (dgTup 2 (dgCons (dgName 3) (dgCons (dgName 4) dgNil))))
  (dSeq (dAsg (dCallR 2 sp__law_value (dRef 0 (dCons (dBin r3Sub (dVar 1) (dC (.int (1)))) dNil))) (dgTup 2 (dgCons (dgName 5) (dgCons (dgName 6) dgNil))))
  (dSeq (dIfS (dB (dBin r3Eq (dVar 2) (dC (.int (5)))))
  (dRet (dTup (dCons (dTup (dCons (dC (.str "closure")) (dCons (dCallR 2 sp__law_draw (dRef 0 (dCons (dC (.int (5))) dNil))) (dCons (dSl (dTup (dCons (dVar 3) (dCons (dVar 5) dNil))) dNoPart (dPart (dCallR 2 sp__law_draw (dRef 0 (dCons (dC (.int (3))) dNil))))) dNil)))) (dCons (dC (.bl false)) dNil))))
  dNext)
  (dSeq (dIfS (dB (dBin r3Eq (dVar 2) (dC (.int (6)))))
  (dSeq (dSet 7 (dIf (dB (dVar 4)) (dVar 3) (dC (.str "unit"))))
  (dRet (dTup (dCons (dTup (dCons (dC (.str "table")) (dCons (dBin r3Star (dTup (dCons (dTup (dCons (dVar 7) (dCons (dVar 5) dNil))) dNil)) (dCallR 2 sp__law_draw (dRef 0 (dCons (dC (.int (3))) dNil)))) (dCons (dCallR 2 sp__law_one (dRef 0 (dCons (dLst (dCons (dC .non) (dCons (dVar 5) dNil))) dNil))) dNil)))) (dCons (dC (.bl false)) dNil)))))
  dNext)
  (dSeq (dIfS (dB (dBin r3Eq (dVar 2) (dC (.int (7)))))
  (dRet (dTup (dCons (dTup (dCons (dC (.str "pair")) (dCons (dVar 3) (dCons (dVar 5) dNil)))) (dCons (dAndV (dVar 4)
   (dVar 6)) dNil))))
  dNext)
  (dRet (dTup (dCons (dTup (dCons (dCallR 2 sp__law_one (dRef 0 (dCons (dLst (dCons (dC (.str "left")) (dCons (dC (.str "right")) dNil))) dNil))) (dCons (dVar 3) dNil))) (dCons (dVar 4) dNil))))))))))))))
theorem d__law_value {P : Program} {w : World} {K : PySem.W.Frag} {mg : Str → Option Value} {base : Heap} {k k_law_draw k_law_one k_law_value : Nat} {sp__law_draw : SpD} {sp__law_one : SpD} {sp__law_value : SpD} (T : Tx K w mg)
    (C__law_draw : Cal P w K mg base k_law_draw "_law_draw" 2 sp__law_draw []) (l__law_draw : k_law_draw ≤ k)
    (C__law_one : Cal P w K mg base k_law_one "_law_one" 2 sp__law_one []) (l__law_one : k_law_one ≤ k)
    (C__law_value : Cal P w K mg base k_law_value "_law_value" 2 sp__law_value []) (l__law_value : k_law_value ≤ k)
    {f : Addr} (cdv : Value) (A : Around) (outer : List Env) (s : Shared) (H : Hp) (E : XK) (c : C0) (hr : Room k (A.deeper (envOfC "_law_value" (defScope st__law_value) s.heap.objs.size f cdv)))
    (tk : Takes (cxOf (L2.CX P w) P w K mg base ["well", "deep", "way", "one", "is_one", "two", "is_two", "first"] "_law_value" (defScope st__law_value) f cdv A outer s H E) (WE0 E)) (ho : PassesOwn (model P w) (cxOf (L2.CX P w) P w K mg base ["well", "deep", "way", "one", "is_one", "two", "is_two", "first"] "_law_value" (defScope st__law_value) f cdv A outer s H E).A (cxOf (L2.CX P w) P w K mg base ["well", "deep", "way", "one", "is_one", "two", "is_two", "first"] "_law_value" (defScope st__law_value) f cdv A outer s H E).env (cxOf (L2.CX P w) P w K mg base ["well", "deep", "way", "one", "is_one", "two", "is_two", "first"] "_law_value" (defScope st__law_value) f cdv A outer s H E).xe) : DSs (cxOf (L2.CX P w) P w K mg base ["well", "deep", "way", "one", "is_one", "two", "is_two", "first"] "_law_value" (defScope st__law_value) f cdv A outer s H E) c (WE0 E) (defBody st__law_value) (t__law_value sp__law_draw sp__law_one sp__law_value) := by
  have ndN : (cxOf (L2.CX P w) P w K mg base ["well", "deep", "way", "one", "is_one", "two", "is_two", "first"] "_law_value" (defScope st__law_value) f cdv A outer s H E).N.Nodup := sc__law_value.nd
  exact (dss_cons (ds_set (i := 2) ndN (de_cr C__law_draw hr (by omega) tk (da_ref 0 (da_cons (de_if (dt_cmp op_gt o3_bl0 (dv 1) de_int) de_int de_int) da_nil))))
  (dss_cons (ds_if (dt_cmp op_lt o3_bl0 (dv 2) de_int)
  (dss_one (ds_ret (de_tup (da_cons (de_cr C__law_one hr (by omega) tk (da_ref 0 (da_cons (de_lst (da_cons de_str (da_cons (de_tup (da_cons de_str (da_cons de_str (da_cons de_int da_nil)))) (da_cons (de_tup (da_cons de_str (da_cons de_str (da_cons de_non da_nil)))) (da_cons (de_tup (da_cons de_str (da_cons de_str (da_cons (de_tup (da_cons de_str (da_cons (de_lst (da_cons de_int da_nil)) (da_cons de_dict0 da_nil)))) da_nil)))) da_nil))))) da_nil))) (da_cons de_bl da_nil)))))
  dss_nil)
  (dss_cons (ds_if (dt_cmp (op_eq3 (room200 hr)) o3_eq (dv 2) de_int)
  (dss_one (ds_ret (de_tup (da_cons (de_tup (da_cons de_str (da_cons (de_cr C__law_one hr (by omega) tk (da_ref 0 (da_cons (de_lst (da_cons de_str (da_cons de_str (da_cons (de_tup (da_cons de_str (da_cons de_str (da_cons (de_tup (da_cons de_str (da_cons de_str (da_cons de_str da_nil)))) da_nil)))) da_nil)))) da_nil))) da_nil))) (da_cons de_bl da_nil)))))
  dss_nil)
  (dss_cons (ds_if (dt_cmp (op_eq3 (room200 hr)) o3_eq (dv 2) de_int)
  (dss_one (ds_ret (de_tup (da_cons (de_tup (da_cons de_str (da_cons (de_cr C__law_one hr (by omega) tk (da_ref 0 (da_cons (de_lst (da_cons de_str (da_cons (de_tup (da_cons de_str (da_cons de_str (da_cons de_str da_nil)))) da_nil))) da_nil))) (da_cons (de_cr C__law_one hr (by omega) tk (da_ref 0 (da_cons (de_lst (da_cons de_str (da_cons (de_tup (da_cons de_str (da_cons de_str (da_cons de_str da_nil)))) da_nil))) da_nil))) (da_cons (de_cr C__law_one hr (by omega) tk (da_ref 0 (da_cons (de_lst (da_cons de_non (da_cons de_str (da_cons (de_tup (da_cons de_str (da_cons de_int da_nil))) (da_cons (de_lst (da_cons de_int da_nil)) da_nil))))) da_nil))) da_nil))))) (da_cons de_bl da_nil)))))
  dss_nil)
  (dss_cons (ds_if (dt_cmp (op_eq3 (room200 hr)) o3_eq (dv 2) de_int)
  (dss_one (ds_ret (de_tup (da_cons (de_tup (da_cons de_str (da_cons (de_cr C__law_one hr (by omega) tk (da_ref 0 (da_cons (de_lst (da_cons de_int (da_cons de_int (da_cons (de_op op_powG o3_int de_int de_int) da_nil)))) da_nil))) (da_cons (de_tup da_nil) da_nil)))) (da_cons de_bl da_nil)))))
  dss_nil)
  (dss_cons (ds_asg (de_cr C__law_value hr (by omega) tk (da_ref 0 (da_cons (de_op op_sub o3_int0 (dv 1) de_int) da_nil))) (dg_tup rfl (dgs_cons (dg_name (i := 3) ndN) (dgs_cons (dg_name (i := 4) ndN) dgs_nil))))
  (dss_cons (ds_asg (de_cr C__law_value hr (by omega) tk (da_ref 0 (da_cons (de_op op_sub o3_int0 (dv 1) de_int) da_nil))) (dg_tup rfl (dgs_cons (dg_name (i := 5) ndN) (dgs_cons (dg_name (i := 6) ndN) dgs_nil))))
  (dss_cons (ds_if (dt_cmp (op_eq3 (room200 hr)) o3_eq (dv 2) de_int)
  (dss_one (ds_ret (de_tup (da_cons (de_tup (da_cons de_str (da_cons (de_cr C__law_draw hr (by omega) tk (da_ref 0 (da_cons de_int da_nil))) (da_cons (de_slice (de_tup (da_cons (dv 3) (da_cons (dv 5) da_nil))) do_none (do_some (de_cr C__law_draw hr (by omega) tk (da_ref 0 (da_cons de_int da_nil))))) da_nil)))) (da_cons de_bl da_nil)))))
  dss_nil)
  (dss_cons (ds_if (dt_cmp (op_eq3 (room200 hr)) o3_eq (dv 2) de_int)
  (dss_cons (ds_set (i := 7) ndN (de_if (dt_val (dv 4)) (dv 3) de_str))
  (dss_one (ds_ret (de_tup (da_cons (de_tup (da_cons de_str (da_cons (de_op op_star o3_star (de_tup (da_cons (de_tup (da_cons (dv 7) (da_cons (dv 5) da_nil))) da_nil)) (de_cr C__law_draw hr (by omega) tk (da_ref 0 (da_cons de_int da_nil)))) (da_cons (de_cr C__law_one hr (by omega) tk (da_ref 0 (da_cons (de_lst (da_cons de_non (da_cons (dv 5) da_nil))) da_nil))) da_nil)))) (da_cons de_bl da_nil))))))
  dss_nil)
  (dss_cons (ds_if (dt_cmp (op_eq3 (room200 hr)) o3_eq (dv 2) de_int)
  (dss_one (ds_ret (de_tup (da_cons (de_tup (da_cons de_str (da_cons (dv 3) (da_cons (dv 5) da_nil)))) (da_cons (de_and (dv 4)
   (de_one (dv 6))) da_nil)))))
  dss_nil)
  (dss_one (ds_ret (de_tup (da_cons (de_tup (da_cons (de_cr C__law_one hr (by omega) tk (da_ref 0 (da_cons (de_lst (da_cons de_str (da_cons de_str da_nil))) da_nil))) (da_cons (dv 3) da_nil))) (da_cons (dv 4) da_nil)))))))))))))))
abbrev st__law_odd : Stmt := top 37
theorem sc__law_odd : FnScope ["well", "some"] ["well"] (defScope st__law_odd) := ⟨rfl, rfl, rfl, by decide +kernel, rfl, by decide +kernel, by decide +kernel⟩
def t__law_odd (sp__law_one : SpD) : TDS :=
(dSeq (dSet 1 (dLst (dCons (dC .non) (dCons (dC (.int (5))) (dCons (dC (.bl true)) (dCons (dC (.str "units")) (dCons (dC (.str "token")) (dCons (dTup dNil) (dCons (dTup (dCons (dC (.str "unit")) dNil)) (dCons (dTup (dCons (dC (.str "token")) (dCons (dC (.str "a")) dNil))) (dCons (dTup (dCons (dC (.str "token")) (dCons (dC (.str "A")) (dCons (dC (.int (0))) dNil)))) (dCons (dTup (dCons (dC (.str "token")) (dCons (dC (.str "no")) (dCons (dC (.int (0))) dNil)))) (dCons (dTup (dCons (dC (.str "token")) (dCons (dC .non) (dCons (dC (.int (0))) dNil)))) (dCons (dTup (dCons (dC (.str "token")) (dCons (dC (.str "a")) (dCons (dC (.int (0))) (dCons (dC (.int (0))) dNil))))) dNil))))))))))))))
  (dSeq (dSet 1 (dBin r3Plus (dVar 1) (dLst (dCons (dLst (dCons (dC (.str "token")) (dCons (dC (.str "a")) (dCons (dC (.int (0))) dNil)))) (dCons (dTup (dCons (dC (.str "pair")) (dCons (dC (.str "unit")) dNil))) (dCons (dTup (dCons (dC (.str "pair")) (dCons (dC (.str "unit")) (dCons (dC .non) dNil)))) dNil))))))
  (dSeq (dSet 1 (dBin r3Plus (dVar 1) (dLst (dCons (dTup (dCons (dC (.str "pair")) (dCons (dC (.str "unit")) (dCons (dC (.str "unit")) (dCons (dC (.str "unit")) dNil))))) (dCons (dTup (dCons (dC (.str "left")) dNil)) (dCons (dTup (dCons (dC (.str "left")) (dCons (dC .non) dNil))) (dCons (dTup (dCons (dC (.str "right")) (dCons (dC (.str "unit")) (dCons (dC (.str "unit")) dNil)))) (dCons (dTup (dCons (dC (.str "closure")) (dCons (dUn r31Neg (dC (.int (1)))) (dCons (dTup dNil) dNil)))) (dCons (dTup (dCons (dC (.str "closure")) (dCons (dC (.bl true)) (dCons (dTup dNil) dNil)))) (dCons (dTup (dCons (dC (.str "closure")) (dCons (dC (.int (0))) dNil))) dNil))))))))))
  (dSeq (dSet 1 (dBin r3Plus (dVar 1) (dLst (dCons (dTup (dCons (dC (.str "closure")) (dCons (dC (.int (0))) (dCons (dLst dNil) dNil)))) (dCons (dTup (dCons (dC (.str "closure")) (dCons (dC (.int (0))) (dCons (dTup (dCons (dC .non) dNil)) dNil)))) (dCons (dTup (dCons (dC (.str "closure")) (dCons (dC (.str "0")) (dCons (dTup dNil) dNil)))) dNil))))))
  (dSeq (dSet 1 (dBin r3Plus (dVar 1) (dLst (dCons (dTup (dCons (dC (.str "plain")) dNil)) (dCons (dTup (dCons (dC (.str "plain")) (dCons (dC (.str "and")) dNil))) (dCons (dTup (dCons (dC (.str "plain")) (dCons (dC (.str "a")) (dCons (dC (.str "b")) dNil)))) (dCons (dTup (dCons (dC (.str "table")) (dCons (dTup dNil) (dCons (dC (.int (5))) dNil)))) (dCons (dTup (dCons (dC (.str "table")) (dCons (dLst dNil) (dCons (dC .non) dNil)))) (dCons (dTup (dCons (dC (.str "table")) (dCons (dTup (dCons (dTup (dCons (dC (.str "unit")) dNil)) dNil)) (dCons (dC .non) dNil)))) dNil)))))))))
  (dSeq (dSet 1 (dBin r3Plus (dVar 1) (dLst (dCons (dTup (dCons (dC (.str "table")) (dCons (dTup (dCons (dTup (dCons (dC (.str "unit")) (dCons (dC (.int (5))) dNil))) dNil)) (dCons (dC .non) dNil)))) (dCons (dTup (dCons (dC (.str "table")) (dCons (dTup (dCons (dTup (dCons (dTup (dCons (dC (.str "plain")) (dCons (dC (.str "a")) dNil))) (dCons (dC (.str "unit")) dNil))) dNil)) (dCons (dC .non) dNil)))) dNil)))))
  (dSeq (dSet 1 (dBin r3Plus (dVar 1) (dLst (dCons (dTup (dCons (dC (.str "table")) (dCons (dTup (dCons (dTup (dCons (dTup (dCons (dC (.str "pair")) (dCons (dC (.str "unit")) (dCons (dTup (dCons (dC (.str "closure")) (dCons (dC (.int (0))) (dCons (dTup dNil) dNil)))) dNil)))) (dCons (dC (.str "unit")) dNil))) dNil)) (dCons (dC .non) dNil)))) (dCons (dTup (dCons (dC (.str "writer")) (dCons (dC (.str "a")) (dCons (dC (.str "b")) dNil)))) (dCons (dTup (dCons (dC (.str "writer")) (dCons (dC (.str "no")) (dCons (dC (.str "a")) (dCons (dC (.int (0))) dNil))))) dNil))))))
  (dSeq (dSet 1 (dBin r3Plus (dVar 1) (dLst (dCons (dTup (dCons (dC (.str "writer")) (dCons (dC (.str "a")) (dCons (dTup (dCons (dC (.str "or")) (dCons (dC (.str "a")) (dCons (dC (.str "b")) dNil)))) (dCons (dC (.int (0))) dNil))))) (dCons (dTup (dCons (dC (.str "writer")) (dCons (dC (.str "a")) (dCons (dC .non) (dCons (dC (.int (0))) dNil))))) (dCons (dTup (dCons (dC (.str "writer")) (dCons (dC (.str "a")) (dCons (dC (.str "a")) (dCons (dC (.int (0))) (dCons (dC (.int (0))) dNil)))))) dNil))))))
  (dRet (dCallR 2 sp__law_one (dRef 0 (dCons (dBin r3Plus (dVar 1) (dLst (dCons dDict0 (dCons (dTup (dCons (dC (.str "device")) (dCons (dC (.str "a")) dNil))) (dCons (dTup (dCons (dTup (dCons (dC (.str "token")) (dCons (dC (.str "a")) (dCons (dC (.int (0))) dNil)))) dNil)) (dCons (dTup (dCons (dC (.str "tokens")) (dCons (dC (.str "a")) (dCons (dC (.int (0))) dNil)))) (dCons (dTup (dCons (dC (.str "table")) (dCons (dTup (dCons (dLst (dCons (dC (.str "unit")) (dCons (dC (.str "unit")) dNil))) dNil)) (dCons (dC .non) dNil)))) (dCons (dTup (dCons (dC (.str "closure")) (dCons (dC (.int (0))) (dCons (dC (.str "unit")) dNil)))) dNil)))))))) dNil))))))))))))
theorem d__law_odd {P : Program} {w : World} {K : PySem.W.Frag} {mg : Str → Option Value} {base : Heap} {k k_law_one : Nat} {sp__law_one : SpD} (T : Tx K w mg)
    (C__law_one : Cal P w K mg base k_law_one "_law_one" 2 sp__law_one []) (l__law_one : k_law_one ≤ k)
    {f : Addr} (cdv : Value) (A : Around) (outer : List Env) (s : Shared) (H : Hp) (E : XK) (c : C0) (hr : Room k (A.deeper (envOfC "_law_odd" (defScope st__law_odd) s.heap.objs.size f cdv)))
    (tk : Takes (cxOf (L2.CX P w) P w K mg base ["well", "some"] "_law_odd" (defScope st__law_odd) f cdv A outer s H E) (WE0 E)) (ho : PassesOwn (model P w) (cxOf (L2.CX P w) P w K mg base ["well", "some"] "_law_odd" (defScope st__law_odd) f cdv A outer s H E).A (cxOf (L2.CX P w) P w K mg base ["well", "some"] "_law_odd" (defScope st__law_odd) f cdv A outer s H E).env (cxOf (L2.CX P w) P w K mg base ["well", "some"] "_law_odd" (defScope st__law_odd) f cdv A outer s H E).xe) : DSs (cxOf (L2.CX P w) P w K mg base ["well", "some"] "_law_odd" (defScope st__law_odd) f cdv A outer s H E) c (WE0 E) (defBody st__law_odd) (t__law_odd sp__law_one) := by
  have ndN : (cxOf (L2.CX P w) P w K mg base ["well", "some"] "_law_odd" (defScope st__law_odd) f cdv A outer s H E).N.Nodup := sc__law_odd.nd
  exact (dss_cons (ds_set (i := 1) ndN (de_lst (da_cons de_non (da_cons de_int (da_cons de_bl (da_cons de_str (da_cons de_str (da_cons (de_tup da_nil) (da_cons (de_tup (da_cons de_str da_nil)) (da_cons (de_tup (da_cons de_str (da_cons de_str da_nil))) (da_cons (de_tup (da_cons de_str (da_cons de_str (da_cons de_int da_nil)))) (da_cons (de_tup (da_cons de_str (da_cons de_str (da_cons de_int da_nil)))) (da_cons (de_tup (da_cons de_str (da_cons de_non (da_cons de_int da_nil)))) (da_cons (de_tup (da_cons de_str (da_cons de_str (da_cons de_int (da_cons de_int da_nil))))) da_nil))))))))))))))
  (dss_cons (ds_set (i := 1) ndN (de_op op_plus o3_plus (dv 1) (de_lst (da_cons (de_lst (da_cons de_str (da_cons de_str (da_cons de_int da_nil)))) (da_cons (de_tup (da_cons de_str (da_cons de_str da_nil))) (da_cons (de_tup (da_cons de_str (da_cons de_str (da_cons de_non da_nil)))) da_nil))))))
  (dss_cons (ds_set (i := 1) ndN (de_op op_plus o3_plus (dv 1) (de_lst (da_cons (de_tup (da_cons de_str (da_cons de_str (da_cons de_str (da_cons de_str da_nil))))) (da_cons (de_tup (da_cons de_str da_nil)) (da_cons (de_tup (da_cons de_str (da_cons de_non da_nil))) (da_cons (de_tup (da_cons de_str (da_cons de_str (da_cons de_str da_nil)))) (da_cons (de_tup (da_cons de_str (da_cons (de_neg de_int) (da_cons (de_tup da_nil) da_nil)))) (da_cons (de_tup (da_cons de_str (da_cons de_bl (da_cons (de_tup da_nil) da_nil)))) (da_cons (de_tup (da_cons de_str (da_cons de_int da_nil))) da_nil))))))))))
  (dss_cons (ds_set (i := 1) ndN (de_op op_plus o3_plus (dv 1) (de_lst (da_cons (de_tup (da_cons de_str (da_cons de_int (da_cons (de_lst da_nil) da_nil)))) (da_cons (de_tup (da_cons de_str (da_cons de_int (da_cons (de_tup (da_cons de_non da_nil)) da_nil)))) (da_cons (de_tup (da_cons de_str (da_cons de_str (da_cons (de_tup da_nil) da_nil)))) da_nil))))))
  (dss_cons (ds_set (i := 1) ndN (de_op op_plus o3_plus (dv 1) (de_lst (da_cons (de_tup (da_cons de_str da_nil)) (da_cons (de_tup (da_cons de_str (da_cons de_str da_nil))) (da_cons (de_tup (da_cons de_str (da_cons de_str (da_cons de_str da_nil)))) (da_cons (de_tup (da_cons de_str (da_cons (de_tup da_nil) (da_cons de_int da_nil)))) (da_cons (de_tup (da_cons de_str (da_cons (de_lst da_nil) (da_cons de_non da_nil)))) (da_cons (de_tup (da_cons de_str (da_cons (de_tup (da_cons (de_tup (da_cons de_str da_nil)) da_nil)) (da_cons de_non da_nil)))) da_nil)))))))))
  (dss_cons (ds_set (i := 1) ndN (de_op op_plus o3_plus (dv 1) (de_lst (da_cons (de_tup (da_cons de_str (da_cons (de_tup (da_cons (de_tup (da_cons de_str (da_cons de_int da_nil))) da_nil)) (da_cons de_non da_nil)))) (da_cons (de_tup (da_cons de_str (da_cons (de_tup (da_cons (de_tup (da_cons (de_tup (da_cons de_str (da_cons de_str da_nil))) (da_cons de_str da_nil))) da_nil)) (da_cons de_non da_nil)))) da_nil)))))
  (dss_cons (ds_set (i := 1) ndN (de_op op_plus o3_plus (dv 1) (de_lst (da_cons (de_tup (da_cons de_str (da_cons (de_tup (da_cons (de_tup (da_cons (de_tup (da_cons de_str (da_cons de_str (da_cons (de_tup (da_cons de_str (da_cons de_int (da_cons (de_tup da_nil) da_nil)))) da_nil)))) (da_cons de_str da_nil))) da_nil)) (da_cons de_non da_nil)))) (da_cons (de_tup (da_cons de_str (da_cons de_str (da_cons de_str da_nil)))) (da_cons (de_tup (da_cons de_str (da_cons de_str (da_cons de_str (da_cons de_int da_nil))))) da_nil))))))
  (dss_cons (ds_set (i := 1) ndN (de_op op_plus o3_plus (dv 1) (de_lst (da_cons (de_tup (da_cons de_str (da_cons de_str (da_cons (de_tup (da_cons de_str (da_cons de_str (da_cons de_str da_nil)))) (da_cons de_int da_nil))))) (da_cons (de_tup (da_cons de_str (da_cons de_str (da_cons de_non (da_cons de_int da_nil))))) (da_cons (de_tup (da_cons de_str (da_cons de_str (da_cons de_str (da_cons de_int (da_cons de_int da_nil)))))) da_nil))))))
  (dss_one (ds_ret (de_cr C__law_one hr (by omega) tk (da_ref 0 (da_cons (de_op op_plus o3_plus (dv 1) (de_lst (da_cons de_dict0 (da_cons (de_tup (da_cons de_str (da_cons de_str da_nil))) (da_cons (de_tup (da_cons (de_tup (da_cons de_str (da_cons de_str (da_cons de_int da_nil)))) da_nil)) (da_cons (de_tup (da_cons de_str (da_cons de_str (da_cons de_int da_nil)))) (da_cons (de_tup (da_cons de_str (da_cons (de_tup (da_cons (de_lst (da_cons de_str (da_cons de_str da_nil))) da_nil)) (da_cons de_non da_nil)))) (da_cons (de_tup (da_cons de_str (da_cons de_int (da_cons de_str da_nil)))) da_nil)))))))) da_nil)))))))))))))
abbrev st_law : Stmt := top 38
theorem sc_law : FnScope ["script", "well", "turn", "value", "is_plain_v", "odd", "some", "one"] ["script"] (defScope st_law) := ⟨rfl, rfl, rfl, by decide +kernel, rfl, by decide +kernel, by decide +kernel⟩
def b1_law (sp__law_well : SpL) (sp__law_value : SpD) (sp_is_value : SpD) (sp_is_bare : SpD) (sp__law_odd : SpD) : TDS :=
(dSeq (dAsg (dCallR 2 sp__law_value (dRef 1 (dCons (dC (.int (3))) dNil))) (dgTup 2 (dgCons (dgName 3) (dgCons (dgName 4) dgNil))))
  (dSeq (dIfS (dOr (dB (dBin r3IsNot (dCall 1 sp_is_value [] (dCons (dVar 3) dNil)) (dC (.bl true))))
   (dOr (dB (dBin r3IsNot (dKw 1 0 1 gId sp_is_value dNil (dCons (dVar 3) dNil)) (dC (.bl true))))
   (dOr (dB (dBin r3Ne (dUn r31ReprB (dCall 1 sp_is_bare [] (dCons (dVar 3) dNil))) (dUn r31ReprB (dVar 4))))
   (dB (dBin r3Ne (dUn r31ReprB (dKw 1 0 1 gId sp_is_bare dNil (dCons (dVar 3) dNil))) (dUn r31ReprB (dVar 4)))))))
  (dRet (dC (.bl false)))
  dNext)
  (dSeq (dSet 5 (dCallR 1 sp__law_odd (dRef 1 dNil)))
  (dSeq (dSet 6 (dLst (dCons (dVar 5) (dCons (dTup (dCons (dC (.str "pair")) (dCons (dVar 3) (dCons (dVar 5) dNil)))) (dCons (dTup (dCons (dC (.str "left")) (dCons (dVar 5) dNil))) (dCons (dTup (dCons (dC (.str "closure")) (dCons (dC (.int (3))) (dCons (dTup (dCons (dVar 3) (dCons (dVar 5) dNil))) dNil)))) (dCons (dTup (dCons (dC (.str "table")) (dCons (dTup (dCons (dTup (dCons (dC (.str "unit")) (dCons (dVar 5) dNil))) dNil)) (dCons (dC .non) dNil)))) (dCons (dTup (dCons (dC (.str "right")) (dCons (dTup (dCons (dC (.str "pair")) (dCons (dVar 5) (dCons (dVar 3) dNil)))) dNil))) dNil))))))))
  (dSeq (dIfS (dB (dBin r3IsNot (dVar 5) (dC .non)))
  (dDrop (dApp 6 (dTup (dCons (dC (.str "table")) (dCons (dTup dNil) (dCons (dVar 5) dNil))))))
  dNext)
  (dIfS (dB (dBin r3Ne (dLc (diSeq (dVar 6)) (dgName 7) (dOr (dB (dBin r3IsNot (dCall 1 sp_is_value [] (dCons (dVar 7) dNil)) (dC (.bl false))))
   (dB (dBin r3IsNot (dCall 1 sp_is_bare [] (dCons (dVar 7) dNil)) (dC (.bl false))))) (dVar 7) [7]) (dLst dNil)))
  (dRet (dC (.bl false)))
  dNext))))))
def t_law (sp__law_well : SpL) (sp__law_value : SpD) (sp_is_value : SpD) (sp_is_bare : SpD) (sp__law_odd : SpD) : TDS :=
(dSeq (dSet 1 (dCallW 1 0 sp__law_well (dCons (dVar 0) dNil)))
  (dSeq (dFor (diRng1 (dC (.int (14)))) (dgName 2) (b1_law sp__law_well sp__law_value sp_is_value sp_is_bare sp__law_odd))
  (dRet (dC (.bl true)))))
theorem d_law {P : Program} {w : World} {K : PySem.W.Frag} {mg : Str → Option Value} {base : Heap} {k k_law_well k_law_value kis_value kis_bare k_law_odd : Nat} {sp__law_well : SpL} {sp__law_value : SpD} {sp_is_value : SpD} {sp_is_bare : SpD} {sp__law_odd : SpD} (T : Tx K w mg)
    (C__law_well : CalL P w K mg base k_law_well "_law_well" 1 sp__law_well) (l__law_well : k_law_well ≤ k)
    (C__law_value : Cal P w K mg base k_law_value "_law_value" 2 sp__law_value []) (l__law_value : k_law_value ≤ k)
    (C_is_value : Cal P w K mg base kis_value "is_value" 1 sp_is_value []) (l_is_value : kis_value ≤ k)
    (K_is_value : CalK P w K mg base kis_value "is_value" 1 0 ["value"] gId sp_is_value) (m_is_value : kis_value ≤ k)
    (C_is_bare : Cal P w K mg base kis_bare "is_bare" 1 sp_is_bare []) (l_is_bare : kis_bare ≤ k)
    (K_is_bare : CalK P w K mg base kis_bare "is_bare" 1 0 ["value"] gId sp_is_bare) (m_is_bare : kis_bare ≤ k)
    (C__law_odd : Cal P w K mg base k_law_odd "_law_odd" 1 sp__law_odd []) (l__law_odd : k_law_odd ≤ k)
    {f : Addr} (cdv : Value) (A : Around) (outer : List Env) (s : Shared) (H : Hp) (E : XK) (c : C0) (hr : Room k (A.deeper (envOfC "law" (defScope st_law) s.heap.objs.size f cdv)))
    (tk : Takes (cxOf (L2.CX P w) P w K mg base ["script", "well", "turn", "value", "is_plain_v", "odd", "some", "one"] "law" (defScope st_law) f cdv A outer s H E) (WE0 E)) (ho : PassesOwn (model P w) (cxOf (L2.CX P w) P w K mg base ["script", "well", "turn", "value", "is_plain_v", "odd", "some", "one"] "law" (defScope st_law) f cdv A outer s H E).A (cxOf (L2.CX P w) P w K mg base ["script", "well", "turn", "value", "is_plain_v", "odd", "some", "one"] "law" (defScope st_law) f cdv A outer s H E).env (cxOf (L2.CX P w) P w K mg base ["script", "well", "turn", "value", "is_plain_v", "odd", "some", "one"] "law" (defScope st_law) f cdv A outer s H E).xe) : DSs (cxOf (L2.CX P w) P w K mg base ["script", "well", "turn", "value", "is_plain_v", "odd", "some", "one"] "law" (defScope st_law) f cdv A outer s H E) c (WE0 E) (defBody st_law) (t_law sp__law_well sp__law_value sp_is_value sp_is_bare sp__law_odd) := by
  have ndN : (cxOf (L2.CX P w) P w K mg base ["script", "well", "turn", "value", "is_plain_v", "odd", "some", "one"] "law" (defScope st_law) f cdv A outer s H E).N.Nodup := sc_law.nd
  exact (dss_cons (ds_set (i := 1) ndN (de_cW 0 C__law_well hr (by omega) tk (da_cons (dv 0) da_nil)))
  (dss_cons (ds_for ho rfl (di_rng1 rfl T.z_range de_int) (dg_name (i := 2) ndN)
  (dss_cons (ds_asg (de_cr C__law_value hr (by omega) tk (da_ref 1 (da_cons de_int da_nil))) (dg_tup rfl (dgs_cons (dg_name (i := 3) ndN) (dgs_cons (dg_name (i := 4) ndN) dgs_nil))))
  (dss_cons (ds_if (dt_bool (dw_or (dt_cmp op_isNot o3_isNot (de_c C_is_value hr (by omega) tk (da_cons (dv 3) da_nil)) de_bl)
   (dw_or (dt_cmp op_isNot o3_isNot (de_k0 K_is_value hr (by omega) tk (dk_cons (dv 3) dk_nil)) de_bl)
   (dw_or (dt_cmp (op_ne3 (room200 hr)) o3_ne (de_callB call_reprB u3_reprB rfl T.z_repr bv_repr (de_c C_is_bare hr (by omega) tk (da_cons (dv 3) da_nil))) (de_callB call_reprB u3_reprB rfl T.z_repr bv_repr (dv 4)))
   (dw_or1 (dt_cmp (op_ne3 (room200 hr)) o3_ne (de_callB call_reprB u3_reprB rfl T.z_repr bv_repr (de_k0 K_is_bare hr (by omega) tk (dk_cons (dv 3) dk_nil))) (de_callB call_reprB u3_reprB rfl T.z_repr bv_repr (dv 4))))))))
  (dss_one (ds_ret de_bl))
  dss_nil)
  (dss_cons (ds_set (i := 5) ndN (de_cr C__law_odd hr (by omega) tk (da_ref 1 da_nil)))
  (dss_cons (ds_set (i := 6) ndN (de_lst (da_cons (dv 5) (da_cons (de_tup (da_cons de_str (da_cons (dv 3) (da_cons (dv 5) da_nil)))) (da_cons (de_tup (da_cons de_str (da_cons (dv 5) da_nil))) (da_cons (de_tup (da_cons de_str (da_cons de_int (da_cons (de_tup (da_cons (dv 3) (da_cons (dv 5) da_nil))) da_nil)))) (da_cons (de_tup (da_cons de_str (da_cons (de_tup (da_cons (de_tup (da_cons de_str (da_cons (dv 5) da_nil))) da_nil)) (da_cons de_non da_nil)))) (da_cons (de_tup (da_cons de_str (da_cons (de_tup (da_cons de_str (da_cons (dv 5) (da_cons (dv 3) da_nil)))) da_nil))) da_nil))))))))
  (dss_cons (ds_if (dt_cmp op_isNot o3_isNot (dv 5) de_non)
  (dss_one (ds_expr (de_append 6 (de_tup (da_cons de_str (da_cons (de_tup da_nil) (da_cons (dv 5) da_nil)))))))
  dss_nil)
  (dss_one (ds_if (dt_cmp (op_ne3 (room200 hr)) o3_ne (de_lc rfl ndN [("one", 7)] rfl (di_seq (dv 6)) (fun _ _ _ _ _ => (dg_name (i := 7) ndN)) (fun _ _ _ _ _ => (dts_one (dt_bool (dw_or (dt_cmp op_isNot o3_isNot (de_c C_is_value hr (by omega) takes0 (da_cons (dv 7) da_nil)) de_bl)
   (dw_or1 (dt_cmp op_isNot o3_isNot (de_c C_is_bare hr (by omega) takes0 (da_cons (dv 7) da_nil)) de_bl)))))) (fun _ _ _ _ _ => (dv 7))) (de_lst da_nil))
  (dss_one (ds_ret de_bl))
  dss_nil))))))))
  (dss_one (ds_ret de_bl))))
theorem d_fixed {P : Program} {w : World} {K : PySem.W.Frag} {mg : Str → Option Value} {base : Heap} {k kis_row : Nat} {sp_is_row : SpD} (T : Tx K w mg)
    (C_is_row : Cal P w K mg base kis_row "is_row" 1 sp_is_row []) (l_is_row : kis_row ≤ k)
    {f : Addr} (cdv : Value) (A : Around) (outer : List Env) (s : Shared) (H : Hp) (E : XK) (c : C0) (hr : Room k (A.deeper (envOfC "fixed" (defScope st_fixed) s.heap.objs.size f cdv)))
    (tk : Takes (cxOf (L2.CX P w) P w K mg base ["value", "done", "line", "one", "parts"] "fixed" (defScope st_fixed) f cdv A outer s H E) (WE0 E)) (ho : PassesOwn (model P w) (cxOf (L2.CX P w) P w K mg base ["value", "done", "line", "one", "parts"] "fixed" (defScope st_fixed) f cdv A outer s H E).A (cxOf (L2.CX P w) P w K mg base ["value", "done", "line", "one", "parts"] "fixed" (defScope st_fixed) f cdv A outer s H E).env (cxOf (L2.CX P w) P w K mg base ["value", "done", "line", "one", "parts"] "fixed" (defScope st_fixed) f cdv A outer s H E).xe) :
    PSs (cxOf (L2.CX P w) P w K mg base ["value", "done", "line", "one", "parts"] "fixed" (defScope st_fixed) f cdv A outer s H E) (defBody st_fixed) (tFixed K (liftT K c (WE0 E) (dNot (dB (dCall 1 sp_is_row [] (dCons (dVar 3) dNil)))))) := by
  have ndN : (cxOf (L2.CX P w) P w K mg base ["value", "done", "line", "one", "parts"] "fixed" (defScope st_fixed) f cdv A outer s H E).N.Nodup := sc_fixed.nd
  refine pss_cons (ps_par rfl ndN (i := 1) (j := 2) rfl rfl (by decide) rfl rfl (pa_cons pe_non (pa_cons (pe_lst (pa_cons (pe_tup (pa_cons (pv 0) (pa_cons pe_non pa_nil))) pa_nil)) pa_nil)) rfl) (pss_cons (ps_while ho (pt_cmpR (op_neL (room200 hr)) (pv 2) (pe_lst pa_nil) (by first | exact nomark _ | rfl)) ?_) (pss_one (ps_ret (pv 1))))
  refine pss_cons (ps_asg (pe_bm0 PySem.F.plainAttrs_list PySem.F.slot_list_pop PySem.F.type_list_pop mt_pop (pv 2)) (pg_tup rfl (pgs_cons (pg_name (i := 3) ndN rfl (by first | exact .inl rfl | exact .inr rfl)) (pgs_cons (pg_name (i := 4) ndN rfl (by first | exact .inl rfl | exact .inr rfl)) pgs_nil)))) (pss_cons (ps_if ((dt_not (dt_val (de_c C_is_row hr l_is_row tk (da_cons (dv 3) da_nil)))).pt) (pss_one (ps_set (i := 1) ndN rfl (by first | exact .inl rfl | exact .inr rfl) (pv 3))) (pss_one (ps_if (pt_cmpR op_isN (pv 4) pe_non (by first | exact nomark _ | rfl)) ?_ ?_))) (pss_one (ps_if (pt_cmpR (op_eqL (room200 hr)) (pv 2) (pe_lst pa_nil) (by first | exact nomark _ | rfl)) (pss_one (ps_ret (pv 1))) pss_nil)))
  · refine pss_cons (ps_expr (pe_bm PySem.F.plainAttrs_list PySem.F.slot_list_append PySem.F.type_list_append mt_append (pv 2) (pa_cons (pe_tup (pa_cons (pv 3) (pa_cons (pe_lst pa_nil) pa_nil))) pa_nil))) (pss_cons (ps_set (i := 1) ndN rfl (by first | exact .inl rfl | exact .inr rfl) pe_non) (pss_cons (ps_if (pt_cmpR op_gt (pe_callB call_len rfl T.z_len bv_len (pa_cons (pv 3) pa_nil)) pe_int (by first | exact nomark _ | rfl)) (pss_cons (ps_expr (pe_bm PySem.F.plainAttrs_list PySem.F.slot_list_append PySem.F.type_list_append mt_append (pv 2) (pa_cons (pe_tup (pa_cons (pe_ix ix_seq (pv 3) pe_int (fun _ _ => rfl)) (pa_cons pe_non pa_nil))) pa_nil))) (pss_one ps_continue)) pss_nil) (pss_cons (ps_expr (pe_bm0 PySem.F.plainAttrs_list PySem.F.slot_list_pop PySem.F.type_list_pop mt_pop (pv 2))) (pss_one (ps_set (i := 1) ndN rfl (by first | exact .inl rfl | exact .inr rfl) (pe_tup pa_nil))))))
  · refine pss_cons (ps_expr (pe_bm PySem.F.plainAttrs_list PySem.F.slot_list_append PySem.F.type_list_append mt_append (pv 4) (pa_cons (pv 1) pa_nil))) (pss_cons (ps_if (pt_cmpR op_lt (pe_callB call_len rfl T.z_len bv_len (pa_cons (pv 4) pa_nil)) (pe_callB call_len rfl T.z_len bv_len (pa_cons (pv 3) pa_nil)) (by first | exact nomark _ | rfl)) (pss_cons (ps_expr (pe_bm PySem.F.plainAttrs_list PySem.F.slot_list_append PySem.F.type_list_append mt_append (pv 2) (pa_cons (pe_tup (pa_cons (pv 3) (pa_cons (pv 4) pa_nil))) pa_nil))) (pss_cons (ps_expr (pe_bm PySem.F.plainAttrs_list PySem.F.slot_list_append PySem.F.type_list_append mt_append (pv 2) (pa_cons (pe_tup (pa_cons (pe_ix ix_seq (pv 3) (pe_callB call_len rfl T.z_len bv_len (pa_cons (pv 4) pa_nil)) (fun _ _ => rfl)) (pa_cons pe_non pa_nil))) pa_nil))) (pss_one ps_continue))) pss_nil) (pss_one (ps_set (i := 1) ndN rfl (by first | exact .inl rfl | exact .inr rfl) (pe_callTy call_tuple_of rfl T.z_tuple bv_tuple (pa_cons (pv 4) pa_nil)))))

abbrev fin (as : List S) (Qd : D → List S → Prop) : EndsD := { nx := fun e => Qd .non (merge as e), rt := fun d e => Qd d (merge as e) }
/-- t keeps the promise sp -/
def Keeps (n N : Nat) (sp : SpD) (t : TDS) : Prop := ∀ (as : List S) (Qd : D → List S → Prop) (Xd : XV → List S → Prop), as.length = n → sp as Qd Xd → t (fun x e => Xd x (merge as e)) (fin as Qd) (startE N as)
/-- a def of one argument, a function of data -/
def spF1 (ok : D → Prop) (f : D → D) : SpD := fun as Qd _ => ∃ d, as = [.d d] ∧ ok d ∧ Qd (f d) [.d d]

/-! ### comprehensions -/
theorem lcN_fm {t : TDE} {tt : TDT} {Q : List D → List S → Prop} (i : Nat) (f : D → D) (p : D → Bool) (e : List S) (he : e[i]? = some .no) : ∀ (xs acc : List D),
    (∀ x ∈ xs, ∀ Q' : Bool → List S → Prop, Q' (p x) (e.set i (.d x)) → tt XF (e.set i (.d x)) Q') →
    (∀ x ∈ xs, p x = true → ∀ Q' : R → List S → Prop, Q' (.d (f x)) (e.set i (.d x)) → t XF (e.set i (.d x)) Q') → acc.length + xs.length ≤ 1000000 → Q (acc ++ (xs.filter p).map f) e →
    lcN (dgName i) tt (bdE t) [i] Q xs acc e
  | [], acc, _, _, _, h => by simpa [lcN] using h
  | x :: r, acc, ht, hb, hl, h => by
    have hi := (List.getElem?_eq_some_iff.mp he).1
    have hw : wipeE (e.set i (.d x)) [i] = e := by
      simp only [wipeE, List.set_set]
      apply List.ext_getElem?
      intro j
      by_cases z : i = j
      · subst z; rw [List.getElem?_set_self hi, he]
      · rw [List.getElem?_set_ne z]
    have hok : okV (e.set i (.d x)) [i] := fun v hv t q => by
      simp at hv; subst hv
      rw [List.getElem?_set_self hi] at q; cases q; rfl
    unfold lcN
    refine ⟨⟨.no, he, rfl⟩, ht x (by simp) _ ?_⟩
    simp only [List.length_cons] at hl
    cases hp : p x with
    | true =>
      rw [if_pos rfl]
      refine hb x (by simp) hp _ ⟨f x, rfl, by omega, hok, ?_⟩
      simp only [fz]
      rw [hw]
      refine lcN_fm i f p e he r _ (fun y hy => ht y (by simp [hy])) (fun y hy => hb y (by simp [hy])) (by simp; omega) ?_
      simpa [List.filter_cons, hp] using h
    | false =>
      rw [if_neg Bool.false_ne_true]
      refine ⟨hok, ?_⟩
      rw [hw]
      exact lcN_fm i f p e he r _ (fun y hy => ht y (by simp [hy])) (fun y hy => hb y (by simp [hy])) (by omega) (by simpa [List.filter_cons, hp] using h)
theorem lcN_map {t : TDE} {Q : List D → List S → Prop} (i : Nat) (f : D → D) (e : List S) (he : e[i]? = some .no) (xs : List D)
    (hb : ∀ x ∈ xs, ∀ Q' : R → List S → Prop, Q' (.d (f x)) (e.set i (.d x)) → t XF (e.set i (.d x)) Q') (hl : xs.length ≤ 1000000) (h : Q (xs.map f) e) :
    lcN (dgName i) dYes (bdE t) [i] Q xs [] e := by
  refine lcN_fm i f (fun _ => true) e he xs [] (fun x _ Q' q => q) (fun x hx _ => hb x hx) (by simpa using hl) ?_
  rw [List.filter_eq_self.mpr (by simp), List.nil_append]
  exact h
theorem bls_map (g : D → Bool) : ∀ xs : List D, blsOf (xs.map fun x => D.bl (g x)) = some (xs.map g)
  | [] => rfl
  | x :: r => by simp only [List.map_cons, blsOf, bls_map g r, Option.map_some]

theorem okV1 {e : List S} {i : Nat} {s : S} (h : e[i]? = some s) (o : s.own = false) : okV e [i] := fun v hv t q => by
  simp at hv; subst hv
  rw [h] at q; cases q; exact o
/-! ### checks -/
def isInt : D → Bool
  | .int _ => true
  | _ => false
abbrev sp_is_integer : SpD := spF1 (fun d => d.isIns = false) fun d => .bl (isInt d)
theorem k_is_integer : Keeps 1 1 sp_is_integer t_is_integer := by
  rintro as Qd Xd - ⟨d, rfl, h1, h2⟩
  unfold t_is_integer
  cases d <;> simp [dRet, dRetN, dIfS, dSeq, dNext, dCont, dBreak, dDrop, dAndV, dOrV, dNotV, dNot, dB, dAnd, dOr, dUn, dBin, dC, dVar, dCons, dNil, dCall, dCallR, dRef, dTup, dLst, dIf, dSet, dAsg, dPar, dgName, dgTup, dgCons, dgNil, dApp, dExt, dPop, dIxK, dInK, dNotInK, dStar, dStarK, dKw, dSl, dPart, dNoPart, dDict0, dWix, dWset, diSeq, diRng1, dChain, r31Isi, r31Len, r31All, r31Any, r31Int, r31Abs, r31List, r31Tuple, r31ReprB, r31Neg, r3Ix, r3I, r3Is, r3IsNot, r3IsN, r3NotN, r3IsB, r3NotB, dats, see, fz, free, asg, merge, startE, S.fixd, S.own, D.isNon, D.isIns, D.len, D.items, isTy, isInt] at h1 h2 ⊢ <;> exact h2
def isWithin : D → D → D → Bool
  | .int v, .int l, .non => decide (l ≤ v)
  | .int v, .int l, .int m => decide (l ≤ v) && decide (v ≤ m)
  | _, _, _ => false
def sp_is_within : SpD := fun as Qd _ => ∃ d l m, as = [.d d, .d (.int l), .d m] ∧ d.isIns = false ∧ (m = .non ∨ ∃ z, m = .int z) ∧ Qd (.bl (isWithin d (.int l) m)) as
theorem k_is_within : Keeps 3 3 sp_is_within (t_is_within sp_is_integer) := by
  rintro as Qd Xd - ⟨d, l, m, rfl, h1, h2, h3⟩
  unfold t_is_within
  rcases h2 with rfl | ⟨z, rfl⟩ <;> cases d <;> simp [dRet, dRetN, dIfS, dSeq, dNext, dCont, dBreak, dDrop, dAndV, dOrV, dNotV, dNot, dB, dAnd, dOr, dUn, dBin, dC, dVar, dCons, dNil, dCall, dCallR, dRef, dTup, dLst, dIf, dSet, dAsg, dPar, dgName, dgTup, dgCons, dgNil, dApp, dExt, dPop, dIxK, dInK, dNotInK, dStar, dStarK, dKw, dSl, dPart, dNoPart, dDict0, dWix, dWset, diSeq, diRng1, dChain, r31Isi, r31Len, r31All, r31Any, r31Int, r31Abs, r31List, r31Tuple, r31ReprB, r31Neg, r3Ix, r3I, r3Is, r3IsNot, r3IsN, r3NotN, r3IsB, r3NotB, dats, see, fz, free, asg, merge, startE, S.fixd, S.own, D.isNon, D.isIns, D.len, D.items, spF1, isInt, isWithin] at h1 h3 ⊢ <;> try exact h3
  all_goals
    rename_i i
    by_cases q : l ≤ i
    · right; refine ⟨q, ?_⟩; simpa [q] using h3
    · left; refine ⟨by omega, ?_⟩; simpa [q] using h3
def isRow : D → Bool
  | .lst _ => true
  | .tup _ => true
  | _ => false
abbrev sp_is_row : SpD := spF1 (fun d => d.isIns = false) fun d => .bl (isRow d)
theorem k_is_row : Keeps 1 1 sp_is_row t_is_row := by
  rintro as Qd Xd - ⟨d, rfl, h1, h2⟩
  unfold t_is_row
  cases d <;> simp [dRet, dRetN, dIfS, dSeq, dNext, dCont, dBreak, dDrop, dAndV, dOrV, dNotV, dNot, dB, dAnd, dOr, dUn, dBin, dC, dVar, dCons, dNil, dCall, dCallR, dRef, dTup, dLst, dIf, dSet, dAsg, dPar, dgName, dgTup, dgCons, dgNil, dApp, dExt, dPop, dIxK, dInK, dNotInK, dStar, dStarK, dKw, dSl, dPart, dNoPart, dDict0, dWix, dWset, diSeq, diRng1, dChain, r31Isi, r31Len, r31All, r31Any, r31Int, r31Abs, r31List, r31Tuple, r31ReprB, r31Neg, r3Ix, r3I, r3Is, r3IsNot, r3IsN, r3NotN, r3IsB, r3NotB, dats, see, fz, free, asg, merge, startE, S.fixd, S.own, D.isNon, D.isIns, D.len, D.items, isTy, isRow] at h1 h2 ⊢ <;> exact h2
def wordsD : List D := match c_WORDS with
  | .tup l => l
  | _ => []
def lettersS : Str := match c_LETTERS with
  | .str l => l
  | _ => ""
def isLetter : D → Bool
  | .str z => inStr z lettersS
  | _ => false
def isName : D → Bool
  | .str z => decide (1 ≤ z.length) && decide (z.length ≤ 8) && !(inD (.str z) wordsD) && (chars z).all isLetter
  | _ => false
abbrev sp_is_name : SpD := spF1 (fun d => d.isIns = false ∧ ∀ z, d = .str z → z.length ≤ 1000000) fun d => .bl (isName d)
theorem words_flat : wordsD.all D.flat0 = true := by decide
theorem c_words : c_WORDS = .tup wordsD := rfl
theorem c_letters : c_LETTERS = .str lettersS := rfl
theorem c_signs : c_MOST_SIGNS = .int 8 := rfl
theorem k_is_name : Keeps 1 2 sp_is_name t_is_name := by
  rintro as Qd Xd - ⟨d, rfl, ⟨h1, h0⟩, h2⟩
  unfold t_is_name
  have hm := mil
  cases d with
  | str z =>
    have hz := h0 z rfl
    simp [dRet, dRetN, dIfS, dSeq, dNext, dCont, dBreak, dDrop, dAndV, dOrV, dNotV, dNot, dB, dAnd, dOr, dUn, dBin, dC, dVar, dCons, dNil, dCall, dCallR, dRef, dTup, dLst, dIf, dSet, dAsg, dPar, dgName, dgTup, dgCons, dgNil, dApp, dExt, dPop, dIxK, dInK, dNotInK, dStar, dStarK, dKw, dSl, dPart, dNoPart, dDict0, dWix, dWset, diSeq, diRng1, dChain, r31Isi, r31Len, r31All, r31Any, r31Int, r31Abs, r31List, r31Tuple, r31ReprB, r31Neg, r3Ix, r3I, r3Is, r3IsNot, r3IsN, r3NotN, r3IsB, r3NotB, dats, see, fz, free, asg, merge, startE, S.fixd, S.own, D.isNon, D.isIns, D.len, D.items, isTy, isName, c_words, c_letters, c_signs, r3In] at h2 ⊢
    refine ⟨by omega, ?_⟩
    by_cases q1 : z.length < 1
    · exact .inl ⟨by omega, by simpa [show ¬ (1 ≤ z.length) by omega] using h2⟩
    refine .inr ⟨by omega, ?_⟩
    by_cases q2 : 8 < z.length
    · exact .inl ⟨by omega, by simpa [show ¬ (z.length ≤ 8) by omega] using h2⟩
    refine .inr ⟨by omega, rfl, fun x hx => List.all_eq_true.mp words_flat x hx, ?_⟩
    cases q3 : inD (D.str z) wordsD with
    | true => simpa [q3] using h2
    | false =>
      rw [if_neg Bool.false_ne_true]
      refine ⟨_, _, rfl, rfl, okV1 rfl rfl, lcN_map 1 (fun x => .bl (isLetter x)) _ rfl _ (fun x hx Q' q => ?_) (by simp [chars]; show z.cps.size ≤ _; have : z.length = z.cps.size := rfl; omega) ⟨_, rfl, _, rfl, _, bls_map _ _, ?_⟩⟩
      · simp only [chars, List.mem_map] at hx
        obtain ⟨c, _, rfl⟩ := hx
        refine ⟨_, _, rfl, rfl, .inl ⟨_, _, rfl, rfl, ?_⟩⟩
        exact q
      · have e1 : decide (1 ≤ z.length) = true := by simp; omega
        have e2 : decide (z.length ≤ 8) = true := by simp; omega
        rw [e1, e2, q3] at h2
        rw [List.all_map]
        exact h2
  | _ => simp [dRet, dRetN, dIfS, dSeq, dNext, dCont, dBreak, dDrop, dAndV, dOrV, dNotV, dNot, dB, dAnd, dOr, dUn, dBin, dC, dVar, dCons, dNil, dCall, dCallR, dRef, dTup, dLst, dIf, dSet, dAsg, dPar, dgName, dgTup, dgCons, dgNil, dApp, dExt, dPop, dIxK, dInK, dNotInK, dStar, dStarK, dKw, dSl, dPart, dNoPart, dDict0, dWix, dWset, diSeq, diRng1, dChain, r31Isi, r31Len, r31All, r31Any, r31Int, r31Abs, r31List, r31Tuple, r31ReprB, r31Neg, r3Ix, r3I, r3Is, r3IsNot, r3IsN, r3NotN, r3IsB, r3NotB, dats, see, fz, free, asg, merge, startE, S.fixd, S.own, D.isNon, D.isIns, D.len, D.items, isTy, isName] at h1 h2 ⊢ <;> exact h2

/-! ### sizes -/
mutual
def nodes : D → Nat
  | .str z => z.length + 1
  | .lst xs => nodesL xs + 1
  | .tup xs => nodesL xs + 1
  | .dct _ xs => nodesL xs + 1
  | .ins _ _ xs => nodesL xs + 1
  | _ => 1
def nodesL : List D → Nat
  | [] => 0
  | x :: r => nodes x + nodesL r
end
theorem nodes_pos : ∀ d : D, 1 ≤ nodes d := fun d => by cases d <;> simp [nodes]
theorem len_nodesL : ∀ xs : List D, xs.length ≤ nodesL xs
  | [] => Nat.le_refl _
  | x :: r => by simp only [List.length_cons, nodesL]; have := nodes_pos x; have := len_nodesL r; omega
theorem nodesL_app : ∀ xs ys : List D, nodesL (xs ++ ys) = nodesL xs + nodesL ys
  | [], _ => by simp [nodesL]
  | x :: r, ys => by simp only [List.cons_append, nodesL, nodesL_app r ys]; omega
theorem nodesL_rev : ∀ xs : List D, nodesL xs.reverse = nodesL xs
  | [] => rfl
  | x :: r => by simp only [List.reverse_cons, nodesL_app, nodesL, nodesL_rev r]; omega
theorem nodes_mem : ∀ {xs : List D} {x : D}, x ∈ xs → nodes x ≤ nodesL xs
  | y :: r, x, h => by
    simp only [nodesL]
    rcases List.mem_cons.mp h with rfl | q
    · omega
    · have := nodes_mem q; omega
theorem depth_mem : ∀ {xs : List D} {x : D}, x ∈ xs → x.depth ≤ D.depths xs
  | y :: r, x, h => by
    simp only [D.depths]
    rcases List.mem_cons.mp h with rfl | q
    · omega
    · have := depth_mem q; omega
theorem noi_mem : ∀ {xs : List D} {x : D}, D.nois xs = true → x ∈ xs → x.noi = true
  | y :: r, x, n, h => by
    simp only [D.nois, Bool.and_eq_true] at n
    rcases List.mem_cons.mp h with rfl | q
    · exact n.1
    · exact noi_mem n.2 q
theorem nois_of : ∀ {xs : List D}, (∀ x ∈ xs, x.noi = true) → D.nois xs = true
  | [], _ => rfl
  | y :: r, h => by
    simp only [D.nois, Bool.and_eq_true]
    exact ⟨h y (by simp), nois_of fun x hx => h x (by simp [hx])⟩
theorem noi_isIns {d : D} (h : d.noi = true) : d.isIns = false := by cases d <;> first | rfl | (simp [D.noi] at h)
structure okD (d : D) : Prop where
  noi : d.noi = true
  few : nodes d ≤ 100000
  low : d.depth ≤ 150
theorem okD.lst {xs : List D} (h : okD (.lst xs)) {x : D} (hx : x ∈ xs) : okD x := ⟨noi_mem (by simpa [D.noi] using h.noi) hx, by have := nodes_mem hx; have := h.few; simp only [nodes] at this; omega, by have := depth_mem hx; have := h.low; simp only [D.depth] at this; omega⟩
theorem okD.tup {xs : List D} (h : okD (.tup xs)) {x : D} (hx : x ∈ xs) : okD x := ⟨noi_mem (by simpa [D.noi] using h.noi) hx, by have := nodes_mem hx; have := h.few; simp only [nodes] at this; omega, by have := depth_mem hx; have := h.low; simp only [D.depth] at this; omega⟩
theorem okD.str {z : Str} (h : okD (.str z)) : z.length ≤ 1000000 := by have := h.few; simp only [nodes] at this; omega
theorem ne_nil {xs : List D} {Q : R → Prop} (n : D.nois xs = true) (h : Q (.d (.bl (!xs.isEmpty)))) : r3Ne (.lst xs) (.lst []) Q := by
  refine ⟨by simp [eqOk, D.noi, D.nois, D.flat, D.flats, D.isDct, n, D.depth, D.depths], ?_⟩
  cases xs with
  | nil => simpa [D.eqv, D.eqvs] using h
  | cons a r => simpa [D.eqv, D.eqvs] using h

/-! ### fixed -/
mutual
def fxD : D → D
  | .lst xs => .tup (fxDs xs)
  | .tup xs => .tup (fxDs xs)
  | d => d
def fxDs : List D → List D
  | [] => []
  | x :: r => fxD x :: fxDs r
end
abbrev sp_fixed : SpD := spF1 okD fxD

/-! ### statements -/
def joinsD : List D := match c_JOINS with
  | .tup l => l
  | _ => []
def isYN (z : Str) : Bool := inD (.str z) [c_YES, c_NO]
def isJoin (z : Str) : Bool := inD (.str z) joinsD
theorem c_joins : c_JOINS = .tup joinsD := rfl
theorem joins_flat : joinsD.all D.flat0 = true := by decide
theorem c_parts : c_MOST_PARTS = .int 24 := rfl
def stLoop : Nat → List D → Bool
  | _, [] => true
  | 0, _ :: _ => false
  | n + 1, .str z :: r => (isYN z || isName (.str z)) && stLoop n r
  | n + 1, .tup [.str j, a, b] :: r => isJoin j && stLoop n (a :: b :: r)
  | n + 1, .lst [.str j, a, b] :: r => isJoin j && stLoop n (a :: b :: r)
  | _ + 1, _ :: _ => false
def stIn (d : D) : D := if stLoop 24 [d] = true then fxD d else .non
abbrev sp_statement_in : SpD := spF1 okD stIn
theorem k_statement_in : Keeps 1 4 sp_statement_in (t_statement_in sp_is_name sp_fixed) := by
  rintro as Qd Xd - ⟨d, rfl, h1, h2⟩
  have loop : ∀ (n : Nat) (st : List D) (s3 : S) (De : EndsD), n ≤ 24 → s3.fixd = false → (∀ x ∈ st, okD x) → nodesL st ≤ 100000 → (stLoop n st = true → ∀ e, (∃ m s, e = [.d d, .ol [], .d (.int m), s]) → De.nx e) → (stLoop n st = false → ∀ e, (∃ s t u, e = [.d d, s, t, u]) → De.rt .non e) →
      whileN (w1_statement_in sp_is_name sp_fixed) (b1_statement_in sp_is_name sp_fixed) (fun x e => Xd x (merge [.d d] e)) De (n + 2) [.d d, .ol st.reverse, .d (.int (24 - n : Int)), s3] := by
    intro n
    induction n with
    | zero =>
      intro st s3 De hn hs hok hfew hy hno
      have hnois : D.nois st.reverse = true := nois_of fun x hx => (hok x (by simpa using hx)).noi
      refine x_while ?_
      unfold w1_statement_in b1_statement_in
      walk_at "l3"
      refine ne_nil hnois ?_
      walk_at "l3"
      cases st with
      | nil =>
        rw [if_neg (by simp)]
        exact hy rfl _ ⟨_, _, rfl⟩
      | cons x r =>
        rw [if_pos (by simp)]
        walk_at "l3"
        refine x_pop rfl List.reverse_cons ?_
        simp only [c_parts]
        walk_at "l3"
        exact hno rfl _ ⟨_, _, _, rfl⟩
    | succ n ih =>
      intro st s3 De hn hs hok hfew hy hno
      have hnois : D.nois st.reverse = true := nois_of fun x hx => (hok x (by simpa using hx)).noi
      refine x_while ?_
      unfold w1_statement_in b1_statement_in
      walk_at "l3"
      refine ne_nil hnois ?_
      walk_at "l3"
      cases st with
      | nil =>
        rw [if_neg (by simp)]
        exact hy rfl _ ⟨_, _, rfl⟩
      | cons x r =>
        have hx := hok x (by simp)
        have hr : ∀ y ∈ r, okD y := fun y hy => hok y (by simp [hy])
        have hfr : nodesL r ≤ 100000 := by simp only [nodesL] at hfew; omega
        have hins := noi_isIns hx.noi
        rw [if_pos (by simp)]
        walk_at "l3"
        refine x_pop rfl List.reverse_cons ?_
        simp only [c_parts, c_joins]
        walk_at "l3"
        have e24 : (24 - ((n + 1 : Nat) : Int) + 1) = 24 - (n : Int) := by omega
        rw [e24, if_neg (by simp; omega)]
        walk_at "l3"
        have rows : ∀ xs : List D, (x = .tup xs ∨ x = .lst xs) → xs.length ≤ 1000000 := fun xs h => by
          have h1 := len_nodesL xs
          have h2 := hx.few
          rcases h with rfl | rfl <;> simp only [nodes] at h2 <;> omega
        cases x with
        | str z =>
          walk_at "l3"
          refine x_notin_t rfl rfl ?_
          walk_at "l3"
          cases hYN : inD (.str z) [c_YES, c_NO] with
          | true =>
            walk_at "l3"
            exact ih r _ De (by omega) rfl hr hfr (fun h => hy (by simp [stLoop, isYN, hYN, h])) (fun h => hno (by simp [stLoop, isYN, hYN, h]))
          | false =>
            walk_at "l3"
            refine ⟨_, rfl, ⟨rfl, fun w h => by cases h; exact hx.str⟩, ?_⟩
            walk_at "l3"
            cases hN : isName (.str z) with
            | true =>
              walk_at "l3"
              exact ih r _ De (by omega) rfl hr hfr (fun h => hy (by simp [stLoop, isYN, hYN, hN, h])) (fun h => hno (by simp [stLoop, isYN, hYN, hN, h]))
            | false =>
              walk_at "l3"
              exact hno (by simp [stLoop, isYN, hYN, hN]) _ ⟨_, _, _, rfl⟩
        | tup xs =>
          have hl := rows xs (.inl rfl)
          walk_at "l3"
          rcases xs with _ | ⟨a, _ | ⟨b, _ | ⟨c, _ | ⟨d', q⟩⟩⟩⟩
          · walk_at "l3"
            exact hno (by simp [stLoop]) _ ⟨_, _, _, rfl⟩
          · walk_at "l3"
            exact hno (by simp [stLoop]) _ ⟨_, _, _, rfl⟩
          · walk_at "l3"
            exact hno (by simp [stLoop]) _ ⟨_, _, _, rfl⟩
          · have ha := hx.tup (x := a) (by simp)
            have hb := hx.tup (x := b) (by simp)
            have hc := hx.tup (x := c) (by simp)
            have hai := noi_isIns ha.noi
            walk_at "l3"
            cases a with
            | str j =>
              walk_at "l3"
              refine x_in_t rfl joins_flat ?_
              walk_at "l3"
              cases hj : inD (.str j) joinsD with
              | true =>
                have hrl := len_nodesL r
                have hrr : r.reverse.length = r.length := List.length_reverse
                walk_at "l3"
                have e1 : r.reverse ++ [c, b] = (b :: c :: r).reverse := by simp
                rw [e1]
                exact ih (b :: c :: r) _ De (by omega) rfl (fun y hy => by rcases List.mem_cons.mp hy with rfl | hy; exact hb; rcases List.mem_cons.mp hy with rfl | hy; exact hc; exact hr y hy) (by simp only [nodesL, nodes] at hfew ⊢; omega)
                  (fun h => hy (by simp [stLoop, isJoin, hj, h])) (fun h => hno (by simp [stLoop, isJoin, hj, h]))
              | false =>
                walk_at "l3"
                exact hno (by simp [stLoop, isJoin, hj]) _ ⟨_, _, _, rfl⟩
            | ins _ _ _ => cases hai
            | _ =>
              walk_at "l3"
              exact hno (by simp [stLoop]) _ ⟨_, _, _, rfl⟩
          · rw [if_neg (by simp; omega)]
            walk_at "l3"
            exact hno (by simp [stLoop]) _ ⟨_, _, _, rfl⟩
        | lst xs =>
          have hl := rows xs (.inr rfl)
          walk_at "l3"
          rcases xs with _ | ⟨a, _ | ⟨b, _ | ⟨c, _ | ⟨d', q⟩⟩⟩⟩
          · walk_at "l3"
            exact hno (by simp [stLoop]) _ ⟨_, _, _, rfl⟩
          · walk_at "l3"
            exact hno (by simp [stLoop]) _ ⟨_, _, _, rfl⟩
          · walk_at "l3"
            exact hno (by simp [stLoop]) _ ⟨_, _, _, rfl⟩
          · have ha := hx.lst (x := a) (by simp)
            have hb := hx.lst (x := b) (by simp)
            have hc := hx.lst (x := c) (by simp)
            have hai := noi_isIns ha.noi
            walk_at "l3"
            cases a with
            | str j =>
              walk_at "l3"
              refine x_in_t rfl joins_flat ?_
              walk_at "l3"
              cases hj : inD (.str j) joinsD with
              | true =>
                have hrl := len_nodesL r
                have hrr : r.reverse.length = r.length := List.length_reverse
                walk_at "l3"
                have e1 : r.reverse ++ [c, b] = (b :: c :: r).reverse := by simp
                rw [e1]
                exact ih (b :: c :: r) _ De (by omega) rfl (fun y hy => by rcases List.mem_cons.mp hy with rfl | hy; exact hb; rcases List.mem_cons.mp hy with rfl | hy; exact hc; exact hr y hy) (by simp only [nodesL, nodes] at hfew ⊢; omega)
                  (fun h => hy (by simp [stLoop, isJoin, hj, h])) (fun h => hno (by simp [stLoop, isJoin, hj, h]))
              | false =>
                walk_at "l3"
                exact hno (by simp [stLoop, isJoin, hj]) _ ⟨_, _, _, rfl⟩
            | ins _ _ _ => cases hai
            | _ =>
              walk_at "l3"
              exact hno (by simp [stLoop]) _ ⟨_, _, _, rfl⟩
          · rw [if_neg (by simp; omega)]
            walk_at "l3"
            exact hno (by simp [stLoop]) _ ⟨_, _, _, rfl⟩
        | ins _ _ _ => cases hins
        | _ =>
          walk_at "l3"
          exact hno (by simp [stLoop]) _ ⟨_, _, _, rfl⟩
  unfold t_statement_in
  walk_at "l3"
  refine x_wh 26 (loop 24 [d] .no _ (by omega) rfl (by simpa using h1) (by have := h1.few; simp [nodesL]; omega) ?_ ?_)
  · rintro hst e ⟨m, s, rfl⟩
    walk_at "l3"
    refine ⟨d, rfl, h1, ?_⟩
    walk_at "l3"
    simpa [stIn, hst] using h2
  · rintro hst e ⟨s, t, u, rfl⟩
    walk_at "l3"
    simpa [stIn, hst] using h2

/-! ### parts -/
def partsL : Nat → List D → List D
  | _, [] => []
  | 0, _ :: _ => []
  | n + 1, .tup [j, a, b] :: r => .tup [j, a, b] :: partsL n (a :: b :: r)
  | n + 1, .lst [j, a, b] :: r => .lst [j, a, b] :: partsL n (a :: b :: r)
  | n + 1, x :: r => x :: partsL n r
/-- what a stack is that statement_in takes -/
theorem st_split {n : Nat} {x : D} {r : List D} (h : stLoop (n + 1) (x :: r) = true) : (∃ z, x = .str z ∧ (isYN z || isName (.str z)) = true ∧ stLoop n r = true) ∨ (∃ j a b, (x = .tup [.str j, a, b] ∨ x = .lst [.str j, a, b]) ∧ isJoin j = true ∧ stLoop n (a :: b :: r) = true) := by
  unfold stLoop at h
  split at h
  · rename_i e; cases e
  · cases h
  · rename_i k z r' e1 e2
    cases e1; cases e2
    rw [Bool.and_eq_true] at h
    exact .inl ⟨z, rfl, h.1, h.2⟩
  · rename_i k j a b r' e1 e2
    cases e1; cases e2
    rw [Bool.and_eq_true] at h
    exact .inr ⟨j, a, b, .inl rfl, h.1, h.2⟩
  · rename_i k j a b r' e1 e2
    cases e1; cases e2
    rw [Bool.and_eq_true] at h
    exact .inr ⟨j, a, b, .inr rfl, h.1, h.2⟩
  · cases h
abbrev sp_parts_in : SpD := spF1 (fun d => okD d ∧ stLoop 24 [d] = true) fun d => .tup (partsL 24 [d])
theorem k_parts_in : Keeps 1 4 sp_parts_in t_parts_in := by
  rintro as Qd Xd - ⟨d, rfl, ⟨h1, h0⟩, h2⟩
  have loop : ∀ (n : Nat) (st acc : List D) (s3 : S) (De : EndsD), s3.fixd = false → (∀ x ∈ st, okD x) → nodesL st ≤ 100000 → acc.length + n ≤ 100 → stLoop n st = true → (∀ e, (∃ s t, e = [.d d, .ol (acc ++ partsL n st), s, t]) → De.nx e) →
      whileN w1_parts_in b1_parts_in (fun x e => Xd x (merge [.d d] e)) De (n + 1) [.d d, .ol acc, .ol st.reverse, s3] := by
    intro n
    induction n with
    | zero =>
      intro st acc s3 De hs hok hfew hacc hst hy
      cases st with
      | cons x r => simp [stLoop] at hst
      | nil =>
        refine x_while ?_
        unfold w1_parts_in b1_parts_in
        walk_at "l3"
        refine ne_nil rfl ?_
        walk_at "l3"
        exact hy _ ⟨.ol [], s3, by simp [partsL]⟩
    | succ n ih =>
      intro st acc s3 De hs hok hfew hacc hst hy
      have hnois : D.nois st.reverse = true := nois_of fun x hx => (hok x (by simpa using hx)).noi
      refine x_while ?_
      unfold w1_parts_in b1_parts_in
      walk_at "l3"
      refine ne_nil hnois ?_
      walk_at "l3"
      cases st with
      | nil =>
        walk_at "l3"
        exact hy _ ⟨.ol [], s3, by simp [partsL]⟩
      | cons x r =>
        have hx := hok x (by simp)
        have hr : ∀ y ∈ r, okD y := fun y hy => hok y (by simp [hy])
        have hfr : nodesL r ≤ 100000 := by simp only [nodesL] at hfew; omega
        have hrl := len_nodesL r
        have hrr : r.reverse.length = r.length := List.length_reverse
        have hins := noi_isIns hx.noi
        rw [if_pos (by simp)]
        walk_at "l3"
        refine x_pop rfl List.reverse_cons ?_
        walk_at "l3"
        rcases st_split hst with ⟨z, rfl, hz, hst'⟩ | ⟨j, a, b, hab, hj, hst'⟩
        · walk_at "l3"
          refine ih r (acc ++ [.str z]) (.d (.str z)) De rfl hr hfr (by simp; omega) hst' ?_
          rintro e ⟨s, t, rfl⟩
          exact hy _ ⟨s, t, by simp [partsL]⟩
        · have e1 : r.reverse ++ [b, a] = (a :: b :: r).reverse := by simp
          rcases hab with rfl | rfl
          · walk_at "l3"
            rw [e1]
            refine ih (a :: b :: r) (acc ++ [.tup [.str j, a, b]]) (.d (.tup [.str j, a, b])) De rfl (fun y hy => by rcases List.mem_cons.mp hy with rfl | hy; exact hx.tup (by simp); rcases List.mem_cons.mp hy with rfl | hy; exact hx.tup (by simp); exact hr y hy) (by simp only [nodesL, nodes] at hfew ⊢; omega) (by simp; omega) hst' ?_
            rintro e ⟨s, t, rfl⟩
            exact hy _ ⟨s, t, by simp [partsL]⟩
          · walk_at "l3"
            rw [e1]
            refine ih (a :: b :: r) (acc ++ [.lst [.str j, a, b]]) (.d (.lst [.str j, a, b])) De rfl (fun y hy => by rcases List.mem_cons.mp hy with rfl | hy; exact hx.lst (by simp); rcases List.mem_cons.mp hy with rfl | hy; exact hx.lst (by simp); exact hr y hy) (by simp only [nodesL, nodes] at hfew ⊢; omega) (by simp; omega) hst' ?_
            rintro e ⟨s, t, rfl⟩
            exact hy _ ⟨s, t, by simp [partsL]⟩
  unfold t_parts_in
  walk_at "l3"
  refine x_wh 25 (loop 24 [d] [] .no _ rfl (by simpa using h1) (by have := h1.few; simp [nodesL]; omega) (by simp) h0 ?_)
  rintro e ⟨s, t, rfl⟩
  walk_at "l3"
  refine ⟨_, .inl rfl, ?_⟩
  walk_at "l3"
  exact h2

theorem parts_ok : ∀ (n : Nat) (st : List D), stLoop n st = true → (∀ x ∈ st, okD x) → ∀ x ∈ partsL n st, okD x ∧ ((∃ z, x = .str z) ∨ ∃ j a b, x = .tup [.str j, a, b] ∨ x = .lst [.str j, a, b])
  | 0, [], _, _, x, hx => by simp [partsL] at hx
  | n + 1, [], _, _, x, hx => by simp [partsL] at hx
  | 0, y :: r, h, _, _, _ => by simp [stLoop] at h
  | n + 1, y :: r, h, hok, x, hx => by
    have hy := hok y (by simp)
    have hr : ∀ z ∈ r, okD z := fun z hz => hok z (by simp [hz])
    rcases st_split h with ⟨z, rfl, hz, h'⟩ | ⟨j, a, b, hab, hj, h'⟩
    · simp only [partsL, List.mem_cons] at hx
      rcases hx with rfl | hx
      · exact ⟨hy, .inl ⟨z, rfl⟩⟩
      · exact parts_ok n r h' hr x hx
    · rcases hab with rfl | rfl
      · simp only [partsL, List.mem_cons] at hx
        rcases hx with rfl | hx
        · exact ⟨hy, .inr ⟨j, a, b, .inl rfl⟩⟩
        · exact parts_ok n _ h' (fun y' hy' => by rcases List.mem_cons.mp hy' with rfl | hy'; exact hy.tup (by simp); rcases List.mem_cons.mp hy' with rfl | hy'; exact hy.tup (by simp); exact hr y' hy') x hx
      · simp only [partsL, List.mem_cons] at hx
        rcases hx with rfl | hx
        · exact ⟨hy, .inr ⟨j, a, b, .inr rfl⟩⟩
        · exact parts_ok n _ h' (fun y' hy' => by rcases List.mem_cons.mp hy' with rfl | hy'; exact hy.lst (by simp); rcases List.mem_cons.mp hy' with rfl | hy'; exact hy.lst (by simp); exact hr y' hy') x hx
theorem parts_len : ∀ (n : Nat) (st : List D), (partsL n st).length ≤ n
  | 0, [] => by simp [partsL]
  | n + 1, [] => by simp [partsL]
  | 0, _ :: _ => by simp [partsL]
  | n + 1, x :: r => by
    unfold partsL
    split
    · simp
    · simp
    · rename_i k j a b r' e1 e2
      cases e1
      have := parts_len n (a :: b :: r')
      simp; omega
    · rename_i k j a b r' e1 e2
      cases e1
      have := parts_len n (a :: b :: r')
      simp; omega
    · rename_i k y r' _ _ e1 e2
      cases e1
      have := parts_len n r'
      simp; omega
theorem eqOk_s {x : D} {z : Str} (h : x.noi = true) : eqOk x (.str z) = true := by simp [eqOk, h, D.flat, D.depth, show (D.str z).noi = true from rfl]
def noOr (x : D) : Bool := D.eqv x c_NO || (match x with
  | .tup (a :: _) => D.eqv a c_OR
  | .lst (a :: _) => D.eqv a c_OR
  | _ => false)
def isPlain (d : D) : Bool := !(partsL 24 [d]).any noOr
abbrev sp_is_plain : SpD := spF1 (fun d => okD d ∧ stLoop 24 [d] = true) fun d => .bl (isPlain d)
theorem k_is_plain : Keeps 1 2 sp_is_plain (t_is_plain sp_parts_in) := by
  rintro as Qd Xd - ⟨d, rfl, ⟨h1, h0⟩, h2⟩
  unfold t_is_plain
  walk_at "l3"
  show dLc _ _ _ _ _ _ _ _
  unfold dLc
  walk_at "l3"
  refine ⟨d, rfl, ⟨h1, h0⟩, ?_⟩
  walk_at "l3"
  have hp := parts_ok 24 [d] h0 (by simpa using h1)
  refine ⟨okV1 rfl rfl, lcN_map 1 (fun x => .bl (noOr x)) _ rfl _ (fun x hx Q' q => ?_) (by have := parts_len 24 [d]; omega) ?_⟩
  · obtain ⟨hx1, hx2⟩ := hp x hx
    rcases hx2 with ⟨z, rfl⟩ | ⟨j, a, b, rfl | rfl⟩
    · walk_at "l3"
      refine x_eq rfl ?_
      walk_at "l3"
      cases hz : D.eqv (.str z) c_NO with
      | true =>
        walk_at "l3"
        simpa [noOr, hz] using q
      | false =>
        walk_at "l3"
        simpa [noOr, hz] using q
    · walk_at "l3"
      refine x_eq (eqOk_s hx1.noi) ?_
      walk_at "l3"
      refine x_eq rfl ?_
      walk_at "l3"
      have e0 : D.eqv (.tup [.str j, a, b]) c_NO = false := by simp [D.eqv, c_NO]
      simpa [noOr, e0] using q
    · walk_at "l3"
      refine x_eq (eqOk_s hx1.noi) ?_
      walk_at "l3"
      refine x_eq rfl ?_
      walk_at "l3"
      have e0 : D.eqv (.lst [.str j, a, b]) c_NO = false := by simp [D.eqv, c_NO]
      simpa [noOr, e0] using q
  · refine ⟨_, rfl, _, _, rfl, bls_map _ _, _, rfl, ?_⟩
    refine ⟨_, rfl, ?_⟩
    rw [List.any_map]
    exact h2

/-! ### closures, told statements, devices -/
mutual
theorem fx_noi : ∀ {d : D}, d.noi = true → (fxD d).noi = true
  | .lst xs, h => by simp only [fxD, D.noi] at h ⊢; exact fxs_noi h
  | .tup xs, h => by simp only [fxD, D.noi] at h ⊢; exact fxs_noi h
  | .non, _ => rfl
  | .bl _, _ => rfl
  | .int _, _ => rfl
  | .str _, _ => rfl
  | .dct _ _, h => h
  | .ins _ _ _, h => h
theorem fxs_noi : ∀ {xs : List D}, D.nois xs = true → D.nois (fxDs xs) = true
  | [], _ => rfl
  | x :: r, h => by
    simp only [D.nois, fxDs, Bool.and_eq_true] at h ⊢
    exact ⟨fx_noi h.1, fxs_noi h.2⟩
end
mutual
theorem fx_depth : ∀ (d : D), (fxD d).depth = d.depth
  | .lst xs => by simp only [fxD, D.depth, fxs_depth xs]
  | .tup xs => by simp only [fxD, D.depth, fxs_depth xs]
  | .non => rfl
  | .bl _ => rfl
  | .int _ => rfl
  | .str _ => rfl
  | .dct _ _ => rfl
  | .ins _ _ _ => rfl
theorem fxs_depth : ∀ (xs : List D), D.depths (fxDs xs) = D.depths xs
  | [] => rfl
  | x :: r => by simp only [fxDs, D.depths, fx_depth x, fxs_depth r]
end
theorem st_flat : ∀ (n : Nat) (st : List D), stLoop n st = true → ∀ x ∈ st, x.flat = true
  | _, [], _, x, hx => by simp at hx
  | 0, y :: r, h, _, _ => by simp [stLoop] at h
  | n + 1, y :: r, h, x, hx => by
    rcases st_split h with ⟨z, rfl, hz, h'⟩ | ⟨j, a, b, hab, hj, h'⟩
    · rcases List.mem_cons.mp hx with rfl | hx
      · rfl
      · exact st_flat n r h' x hx
    · have ih := st_flat n _ h'
      rcases List.mem_cons.mp hx with rfl | hx
      · have ha := ih a (by simp)
        have hb := ih b (by simp)
        rcases hab with rfl | rfl <;> simp [D.flat, D.flats, ha, hb]
      · exact ih x (by simp [hx])
def told (d : D) : Bool := stLoop 24 [d] && D.eqv (fxD d) d
abbrev sp_is_told : SpD := spF1 okD fun d => .bl (told d)
theorem fx_isNon : ∀ {d : D}, stLoop 24 [d] = true → (fxD d).isNon = false
  | d, h => by
    rcases st_split h with ⟨z, rfl, _⟩ | ⟨j, a, b, rfl | rfl, _⟩ <;> rfl
theorem k_is_told : Keeps 1 2 sp_is_told (t_is_told sp_statement_in) := by
  rintro as Qd Xd - ⟨d, rfl, h1, h2⟩
  unfold t_is_told
  walk_at "l3"
  refine ⟨d, rfl, h1, ?_⟩
  cases hst : stLoop 24 [d] with
  | false =>
    have e0 : stIn d = .non := by simp [stIn, hst]
    rw [e0]
    walk_at "l3"
    simpa [told, hst] using h2
  | true =>
    have e0 : stIn d = fxD d := by simp [stIn, hst]
    rw [e0]
    walk_at "l3"
    rw [fx_isNon hst]
    walk_at "l3"
    refine x_eq ?_ ?_
    · have hf := st_flat 24 [d] hst d (by simp)
      have := h1.low
      simp [eqOk, h1.noi, fx_noi h1.noi, hf, fx_depth]
      omega
    · walk_at "l3"
      simpa [told, hst] using h2
def isClosure : D → Bool
  | .tup [.str k, a, .tup _] => k == "closure" && isWithin a (.int 0) .non
  | _ => false
abbrev okT : D → Prop := fun d => okD d ∧ ∃ k r, d = .tup (.str k :: r)
abbrev sp_is_closure : SpD := spF1 okT fun d => .bl (isClosure d)
theorem k_is_closure : Keeps 1 1 sp_is_closure (t_is_closure sp_is_within) := by
  rintro as Qd Xd - ⟨d, rfl, ⟨h1, k, r, rfl⟩, h2⟩
  have hl : (D.str k :: r).length ≤ 1000000 := by have := len_nodesL (.str k :: r); have := h1.few; simp only [nodes] at this; omega
  unfold t_is_closure
  walk_at "l3"
  refine x_ne rfl ?_
  walk_at "l3"
  cases hk : D.eqv (.str k) (.str "closure") with
  | false =>
    walk_at "l3"
    have e0 : isClosure (.tup (.str k :: r)) = false := by
      unfold isClosure
      split
      · rename_i k' a xs e
        cases e
        simp only [D.eqv] at hk
        rw [hk]; rfl
      · rfl
    simpa [e0] using h2
  | true =>
    walk_at "l3"
    rcases r with _ | ⟨a, _ | ⟨b, _ | ⟨c, q⟩⟩⟩
    · walk_at "l3"
      simpa [isClosure] using h2
    · walk_at "l3"
      simpa [isClosure] using h2
    · have ha := h1.tup (x := a) (by simp)
      have hb := h1.tup (x := b) (by simp)
      have hai := noi_isIns ha.noi
      have hbi := noi_isIns hb.noi
      walk_at "l3"
      cases b with
      | tup xs =>
        walk_at "l3"
        refine ⟨a, 0, .non, rfl, hai, .inl rfl, ?_⟩
        walk_at "l3"
        simp only [D.eqv] at hk
        simpa [isClosure, hk] using h2
      | ins _ _ _ => cases hbi
      | _ =>
        walk_at "l3"
        simpa [isClosure] using h2
    · rw [if_pos (by simp; omega)]
      walk_at "l3"
      simpa [isClosure] using h2

theorem okD.len {xs : List D} (h : okD (.tup xs)) : xs.length ≤ 1000000 := by have := len_nodesL xs; have := h.few; simp only [nodes] at this; omega
theorem okD.lenl {xs : List D} (h : okD (.lst xs)) : xs.length ≤ 1000000 := by have := len_nodesL xs; have := h.few; simp only [nodes] at this; omega
def isDevice : D → Bool
  | .tup (.str k :: r) => if k == "plain" then (match r with
      | [a] => told a
      | _ => false) else if k == "writer" then (match r with
      | [a, b, _] => told a && (told b && (isPlain a && isPlain b))
      | _ => false) else false
  | _ => false
abbrev sp_is_device : SpD := spF1 okT fun d => .bl (isDevice d)
theorem told_st {d : D} (h : told d = true) : stLoop 24 [d] = true := by
  unfold told at h
  rw [Bool.and_eq_true] at h
  exact h.1
theorem k_is_device : Keeps 1 1 sp_is_device (t_is_device sp_is_told sp_is_plain) := by
  rintro as Qd Xd - ⟨d, rfl, ⟨h1, k, r, rfl⟩, h2⟩
  have hl := h1.len
  unfold t_is_device
  walk_at "l3"
  refine x_eq rfl ?_
  walk_at "l3"
  cases hk : D.eqv (.str k) (.str "plain") with
  | true =>
    have hk' : (k == "plain") = true := by simpa only [D.eqv] using hk
    walk_at "l3"
    rcases r with _ | ⟨a, _ | ⟨b, q⟩⟩
    · walk_at "l3"
      simpa [isDevice, hk'] using h2
    · walk_at "l3"
      refine ⟨a, rfl, h1.tup (by simp), ?_⟩
      walk_at "l3"
      simpa [isDevice, hk'] using h2
    · refine x_ifn (by simp; omega) ?_
      walk_at "l3"
      simpa [isDevice, hk'] using h2
  | false =>
    have hk' : (k == "plain") = false := by simpa only [D.eqv] using hk
    walk_at "l3"
    refine x_ne rfl ?_
    walk_at "l3"
    cases hw : D.eqv (.str k) (.str "writer") with
    | false =>
      have hw' : (k == "writer") = false := by simpa only [D.eqv] using hw
      walk_at "l3"
      simpa [isDevice, hk', hw'] using h2
    | true =>
      have hw' : (k == "writer") = true := by simpa only [D.eqv] using hw
      walk_at "l3"
      rcases r with _ | ⟨a, _ | ⟨b, _ | ⟨c, _ | ⟨d', q⟩⟩⟩⟩
      · walk_at "l3"
        simpa [isDevice, hk', hw'] using h2
      · walk_at "l3"
        simpa [isDevice, hk', hw'] using h2
      · walk_at "l3"
        simpa [isDevice, hk', hw'] using h2
      · have ha := h1.tup (x := a) (by simp)
        have hb := h1.tup (x := b) (by simp)
        walk_at "l3"
        refine ⟨a, rfl, ha, ?_⟩
        walk_at "l3"
        cases ta : told a with
        | false =>
          walk_at "l3"
          simpa [isDevice, hk', hw', ta] using h2
        | true =>
          walk_at "l3"
          refine ⟨b, rfl, hb, ?_⟩
          walk_at "l3"
          cases tb : told b with
          | false =>
            walk_at "l3"
            simpa [isDevice, hk', hw', ta, tb] using h2
          | true =>
            walk_at "l3"
            refine ⟨a, rfl, ⟨ha, told_st ta⟩, ?_⟩
            walk_at "l3"
            cases pa : isPlain a with
            | false =>
              walk_at "l3"
              simpa [isDevice, hk', hw', ta, tb, pa] using h2
            | true =>
              walk_at "l3"
              refine ⟨b, rfl, ⟨hb, told_st tb⟩, ?_⟩
              walk_at "l3"
              simpa [isDevice, hk', hw', ta, tb, pa] using h2
      · refine x_ifp (by simp; omega) ?_
        walk_at "l3"
        simpa [isDevice, hk', hw'] using h2
/-! ### tables -/
def rowOk (f : D → Bool) : D → Bool
  | .tup [a, _] => f a
  | _ => false
def tableF (f : D → Bool) : D → Bool
  | .tup [.str k, .tup rows, _] => k == "table" && rows.all (rowOk f)
  | _ => false
def okDn (n : Nat) (d : D) : Prop := okD d ∧ d.depth ≤ n
abbrev sp_is_bare (f : D → Bool) (n : Nat) : SpD := spF1 (okDn n) fun d => .bl (f d)
abbrev sp_is_table (f : D → Bool) (n : Nat) : SpD := spF1 (fun d => okT d ∧ d.depth ≤ n) fun d => .bl (tableF f d)
theorem k_is_table (f : D → Bool) (n : Nat) : Keeps 1 2 (sp_is_table f (n + 1)) (t_is_table (sp_is_bare f n)) := by
  rintro as Qd Xd - ⟨d, rfl, ⟨⟨h1, k, r, rfl⟩, hd⟩, h2⟩
  have hl := h1.len
  unfold t_is_table
  walk_at "l3"
  refine x_ne rfl ?_
  walk_at "l3"
  cases hk : D.eqv (.str k) (.str "table") with
  | false =>
    have hk' : (k == "table") = false := by simpa only [D.eqv] using hk
    walk_at "l3"
    have e0 : tableF f (.tup (.str k :: r)) = false := by
      unfold tableF
      split
      · rename_i k' a xs e
        cases e
        rw [hk']; rfl
      · rfl
    simpa [e0] using h2
  | true =>
    have hk' : (k == "table") = true := by simpa only [D.eqv] using hk
    walk_at "l3"
    rcases r with _ | ⟨a, _ | ⟨b, _ | ⟨c, q⟩⟩⟩
    · walk_at "l3"
      simpa [tableF] using h2
    · walk_at "l3"
      simpa [tableF] using h2
    · have ha := h1.tup (x := a) (by simp)
      have hai := noi_isIns ha.noi
      walk_at "l3"
      cases a with
      | tup rows =>
        walk_at "l3"
        show dLc _ _ _ _ _ _ _ _
        unfold dLc
        walk_at "l3"
        have hlr := ha.len
        refine ⟨okV1 rfl rfl, lcN_map 1 (fun x => .bl (rowOk f x)) _ rfl _ (fun x hx Q' q => ?_) hlr ?_⟩
        · have hx1 := ha.tup hx
          have hxi := noi_isIns hx1.noi
          have hxd : x.depth + 2 ≤ n + 1 := by
            have := depth_mem hx
            simp only [D.depth, D.depths] at hd
            omega
          walk_at "l3"
          cases x with
          | tup ys =>
            have hly := hx1.len
            walk_at "l3"
            rcases ys with _ | ⟨u, _ | ⟨v, _ | ⟨y, q'⟩⟩⟩
            · walk_at "l3"
              simpa [rowOk] using q
            · walk_at "l3"
              simpa [rowOk] using q
            · have hu := hx1.tup (x := u) (by simp)
              walk_at "l3"
              refine ⟨u, rfl, ⟨hu, ?_⟩, ?_⟩
              · simp only [D.depth, D.depths] at hxd
                omega
              · walk_at "l3"
                simpa [rowOk] using q
            · refine x_ifn (by simp; omega) ?_
              walk_at "l3"
              simpa [rowOk] using q
          | ins _ _ _ => cases hxi
          | _ =>
            walk_at "l3"
            simpa [rowOk] using q
        · refine ⟨_, rfl, _, _, rfl, bls_map _ _, _, rfl, ?_⟩
          rw [List.all_map]
          simpa [tableF, hk', backE, wipeE, merge, fz, S.fixd, Function.comp] using h2
      | ins _ _ _ => cases hai
      | _ =>
        walk_at "l3"
        simpa [tableF] using h2
    · refine x_ifp (by simp; omega) ?_
      walk_at "l3"
      simpa [tableF] using h2

def its : D → List D
  | .tup xs => xs
  | _ => []
def tailD (d : D) : List D := if d.isNon = true then [] else [d]
def third : D → D
  | .tup [_, _, c] => c
  | _ => .non
def second : D → D
  | .tup [_, b, _] => b
  | _ => .non
def valuesF (f : D → Bool) : D → Option (List D)
  | .str z => if (z == "unit") = true then some [] else none
  | .tup (.str k :: a :: r) => if (k == "token") = true then (match r with
        | [_] => if isName a = true then some [] else none
        | _ => none)
      else if (k == "pair") = true then (match r with
        | [b] => some [a, b]
        | _ => none)
      else if (k == "left" || k == "right") = true then (match r with
        | [] => some [a]
        | _ => none)
      else if isClosure (.tup (.str k :: a :: r)) = true then some (its (third (.tup (.str k :: a :: r))))
      else if tableF f (.tup (.str k :: a :: r)) = true then some ((its (second (.tup (.str k :: a :: r)))).flatMap its ++ tailD (third (.tup (.str k :: a :: r))))
      else if isDevice (.tup (.str k :: a :: r)) = true then some [] else none
  | _ => none
def vD : Option (List D) → D
  | none => .non
  | some xs => .lst xs
abbrev sp_values_in (f : D → Bool) (n : Nat) : SpD := spF1 (okDn n) fun d => vD (valuesF f d)
theorem lc2c (v : D) {Q : List D → List S → Prop} : ∀ (rows acc : List D), (∀ x ∈ rows, ∃ ys, x = .tup ys) → acc.length + (rows.flatMap its).length ≤ 1000000 → Q (acc ++ rows.flatMap its) [.d v, .no, .no] →
    lcN (dgName 1) dYes (bdI (diSeq (dVar 1)) (dgName 2) dYes (dVar 2) [2]) [1, 2] Q rows acc [.d v, .no, .no]
  | [], acc, _, _, h => by simpa [lcN] using h
  | x :: r, acc, hx, hl, h => by
    obtain ⟨ys, rfl⟩ := hx x (by simp)
    have e0 : (D.tup ys :: r).flatMap its = ys ++ r.flatMap its := rfl
    rw [e0] at hl h
    rw [List.length_append] at hl
    unfold lcN
    refine ⟨⟨.no, rfl, rfl⟩, ?_⟩
    refine x_yes ?_
    rw [if_pos rfl]
    unfold bdI
    walk_at "l3"
    refine ⟨okV1 rfl rfl, ?_⟩
    show lcN _ _ _ _ _ ys acc [.d v, .d (.tup ys), .no]
    refine lcN_fm 2 (fun x => x) (fun _ => true) _ rfl ys acc (fun x _ Q' q => q) (fun x _ _ Q' q => q) (by omega) ?_
    have e1 : (ys.filter fun _ => true).map (fun x => x) = ys := by rw [List.filter_eq_self.mpr (by simp)]; simp
    rw [e1]
    refine ⟨fun w hw t q => ?_, ?_⟩
    · simp at hw
      rcases hw with rfl | rfl
      · cases q; rfl
      · cases q; rfl
    · show lcN _ _ _ _ _ r (acc ++ ys) [.d v, .no, .no]
      exact lc2c v r (acc ++ ys) (fun z hz => hx z (by simp [hz])) (by rw [List.length_append]; omega) (by rw [List.append_assoc]; exact h)
theorem str_ne {k l : Str} (h : D.eqv (.str k) (.str l) = false) : (k == l) = false := by simpa only [D.eqv] using h
theorem str_eq {k l : Str} (h : D.eqv (.str k) (.str l) = true) : k = l := by simpa only [D.eqv, beq_iff_eq] using h
theorem getK_inner (k : Str) : getK k_INNER k = if (k == "pair") = true then some (.int 2) else if (k == "left" || k == "right") = true then some (.int 1) else none := by
  unfold getK k_INNER
  simp only [List.find?_cons, List.find?_nil]
  have e1 : ∀ a b : Str, (a == b) = (b == a) := fun a b => by
    cases h : a == b with
    | true => rw [beq_iff_eq] at h; subst h; simp
    | false => symm; rw [beq_eq_false_iff_ne] at h ⊢; exact fun z => h z.symm
  rw [e1 "pair" k, e1 "left" k, e1 "right" k]
  cases k == "pair" <;> cases k == "left" <;> cases k == "right" <;> rfl
theorem cut3 (x a b : D) : L3.cutD [x, a, b] (some 1) none = [a, b] := rfl
theorem cut2 (x a : D) : L3.cutD [x, a] (some 1) none = [a] := rfl
theorem clos_inv {k : Str} {a : D} {r : List D} (h : isClosure (.tup (.str k :: a :: r)) = true) : ∃ ys, r = [.tup ys] := by
  unfold isClosure at h
  split at h
  · rename_i k' a' xs e
    cases e
    exact ⟨_, rfl⟩
  · cases h
theorem tab_inv {f : D → Bool} {k : Str} {a : D} {r : List D} (h : tableF f (.tup (.str k :: a :: r)) = true) : ∃ rows b, a = .tup rows ∧ r = [b] ∧ ∀ x ∈ rows, ∃ ys, x = .tup ys := by
  unfold tableF at h
  split at h
  · rename_i k' rows b e
    cases e
    rw [Bool.and_eq_true, List.all_eq_true] at h
    refine ⟨rows, b, rfl, rfl, fun x hx => ?_⟩
    have := h.2 x hx
    unfold rowOk at this
    split at this
    · exact ⟨_, rfl⟩
    · cases this
  · cases h
theorem its_nodes : ∀ d : D, nodesL (its d) ≤ nodes d
  | .tup xs => by simp [its, nodes]
  | .non => by simp [its, nodesL]
  | .bl _ => by simp [its, nodesL]
  | .int _ => by simp [its, nodesL]
  | .str _ => by simp [its, nodesL]
  | .lst _ => by simp [its, nodesL]
  | .dct _ _ => by simp [its, nodesL]
  | .ins _ _ _ => by simp [its, nodesL]
theorem flat_nodes : ∀ rows : List D, nodesL (rows.flatMap its) ≤ nodesL rows
  | [] => by simp [nodesL]
  | x :: r => by
    show nodesL (its x ++ r.flatMap its) ≤ _
    rw [nodesL_app]
    simp only [nodesL]
    have := its_nodes x
    have := flat_nodes r
    omega
theorem k_values_in (f : D → Bool) (n : Nat) : Keeps 1 3 (sp_values_in f n) (t_values_in sp_is_name sp_is_closure (sp_is_table f n) sp_is_device) := by
  rintro as Qd Xd - ⟨d, rfl, ⟨h1, hd⟩, h2⟩
  have hi := noi_isIns h1.noi
  unfold t_values_in
  walk_at "l3"
  refine x_eq (eqOk_s h1.noi) ?_
  walk_at "l3"
  cases d with
  | ins _ _ _ => cases hi
  | str z =>
    cases hz : D.eqv (.str z) (.str "unit") with
    | true =>
      walk_at "l3"
      simpa [valuesF, str_eq hz, vD] using h2
    | false =>
      walk_at "l3"
      simpa [valuesF, str_ne hz, vD] using h2
  | tup xs =>
    have e0 : D.eqv (.tup xs) (.str "unit") = false := by simp [D.eqv]
    rw [e0]
    have hl := h1.len
    walk_at "l3"
    rcases xs with _ | ⟨a0, _ | ⟨a, r⟩⟩
    · walk_at "l3"
      simpa [valuesF, vD] using h2
    · walk_at "l3"
      have e9 : valuesF f (.tup [a0]) = none := by cases a0 <;> rfl
      simpa [e9, vD] using h2
    refine x_ifn (by simp; omega) ?_
    have h0 := h1.tup (x := a0) (by simp)
    have h0i := noi_isIns h0.noi
    have ha := h1.tup (x := a) (by simp)
    have hai := noi_isIns ha.noi
    walk_at "l3"
    cases a0 with
    | ins _ _ _ => cases h0i
    | str k =>
      walk_at "l3"
      refine x_eq rfl ?_
      walk_at "l3"
      cases k1 : D.eqv (.str k) (.str "token") with
      | true =>
        have k1' := str_eq k1
        subst k1'
        walk_at "l3"
        rcases r with _ | ⟨b, _ | ⟨c, q⟩⟩
        · walk_at "l3"
          simpa [valuesF, vD] using h2
        · walk_at "l3"
          refine ⟨a, rfl, ⟨hai, fun z hz => by subst hz; exact ha.str⟩, ?_⟩
          walk_at "l3"
          cases hn : isName a with
          | true =>
            walk_at "l3"
            simpa [valuesF, vD, hn] using h2
          | false =>
            walk_at "l3"
            simpa [valuesF, vD, hn] using h2
        · refine x_ifn (by simp; omega) ?_
          walk_at "l3"
          simpa [valuesF, vD] using h2
      | false =>
        have k1' := str_ne k1
        walk_at "l3"
        rw [getK_inner]
        cases k2 : k == "pair" with
        | true =>
          have k2' : k = "pair" := by simpa using k2
          subst k2'
          walk_at "l3"
          rcases r with _ | ⟨b, _ | ⟨c, q⟩⟩
          · walk_at "l3"
            simpa [valuesF, vD, ofS_inj, cut3, cut2] using h2
          · walk_at "l3"
            simpa [valuesF, vD, ofS_inj, cut3, cut2] using h2
          · refine x_ifn (by simp; omega) ?_
            walk_at "l3"
            simpa [valuesF, vD, ofS_inj, cut3, cut2] using h2
        | false =>
          cases k3 : k == "left" || k == "right" with
          | true =>
            have k3' : k = "left" ∨ k = "right" := by simpa using k3
            rcases k3' with rfl | rfl
            · walk_at "l3"
              rcases r with _ | ⟨b, q⟩
              · walk_at "l3"
                simpa [valuesF, vD, ofS_inj, cut3, cut2] using h2
              · refine x_ifn (by simp; omega) ?_
                walk_at "l3"
                simpa [valuesF, vD, ofS_inj, cut3, cut2] using h2
            · walk_at "l3"
              rcases r with _ | ⟨b, q⟩
              · walk_at "l3"
                simpa [valuesF, vD, ofS_inj, cut3, cut2] using h2
              · refine x_ifn (by simp; omega) ?_
                walk_at "l3"
                simpa [valuesF, vD, ofS_inj, cut3, cut2] using h2
          | false =>
            walk_at "l3"
            refine ⟨_, rfl, ⟨h1, k, _, rfl⟩, ?_⟩
            walk_at "l3"
            cases hc : isClosure (.tup (.str k :: a :: r)) with
            | true =>
              obtain ⟨ys, rfl⟩ := clos_inv hc
              walk_at "l3"
              simpa [valuesF, k1', k2, k3, hc, vD, third, its] using h2
            | false =>
              walk_at "l3"
              refine ⟨_, rfl, ⟨⟨h1, k, _, rfl⟩, hd⟩, ?_⟩
              walk_at "l3"
              cases ht : tableF f (.tup (.str k :: a :: r)) with
              | true =>
                obtain ⟨rows, b, rfl, rfl, hrows⟩ := tab_inv ht
                have hfl := flat_nodes rows
                have hfn := len_nodesL (rows.flatMap its)
                have hfw := ha.few
                simp only [nodes] at hfw
                walk_at "l3"
                show dLc2 _ _ _ _ _ _ _ _ _ _ _ _
                unfold dLc2
                walk_at "l3"
                refine ⟨fun w hw t q => ?_, ?_⟩
                · simp at hw
                  rcases hw with rfl | rfl <;> (cases q; rfl)
                · refine lc2c _ rows [] hrows (by simp only [List.length_nil]; omega) ?_
                  show dIf _ _ _ _ _ _
                  walk_at "l3"
                  cases hb : b.isNon with
                  | true =>
                    have hbl : (rows.flatMap its).length + ([] : List D).length ≤ 1000000 := by simp only [List.length_nil]; omega
                    walk_at "l3"
                    simpa [valuesF, k1', k2, k3, hc, ht, vD, second, third, its, tailD, hb, backE, merge] using h2
                  | false =>
                    have hbl : (rows.flatMap its).length + ([b] : List D).length ≤ 1000000 := by simp only [List.length_cons, List.length_nil]; omega
                    walk_at "l3"
                    simpa [valuesF, k1', k2, k3, hc, ht, vD, second, third, its, tailD, hb, backE, merge] using h2
              | false =>
                walk_at "l3"
                refine ⟨_, rfl, ⟨h1, k, _, rfl⟩, ?_⟩
                walk_at "l3"
                cases hdv : isDevice (.tup (.str k :: a :: r)) with
                | true =>
                  walk_at "l3"
                  simpa [valuesF, k1', k2, k3, hc, ht, hdv, vD] using h2
                | false =>
                  walk_at "l3"
                  simpa [valuesF, k1', k2, k3, hc, ht, hdv, vD] using h2
    | _ =>
      walk_at "l3"
      simpa [valuesF, vD] using h2
  | _ =>
    walk_at "l3"
    simpa [valuesF, vD] using h2

def innerL : List D := [.str "token", .str "pair", .str "left", .str "right"]
def headOk : D → Bool
  | .str _ => true
  | .tup (.str k :: _) => inD (.str k) innerL
  | _ => false
def bareF : Nat → D → Bool
  | 0, _ => false
  | n + 1, d => match valuesF (bareF n) d with
    | none => false
    | some xs => headOk d && xs.all (bareF n)
def bare (d : D) : Bool := bareF (d.depth + 1) d
theorem tup_depth {xs : List D} {x : D} (h : x ∈ xs) : x.depth < (D.tup xs).depth := by have := depth_mem h; simp only [D.depth]; omega
theorem its_depth {d x : D} (h : x ∈ its d) : x.depth < d.depth := by
  cases d with
  | tup xs => exact tup_depth h
  | _ => simp [its] at h
theorem second_mem {xs : List D} : second (.tup xs) ∈ xs ∨ second (.tup xs) = .non := by
  unfold second
  split
  · rename_i e; cases e; simp
  · exact .inr rfl
theorem third_mem {xs : List D} : third (.tup xs) ∈ xs ∨ third (.tup xs) = .non := by
  unfold third
  split
  · rename_i e; cases e; simp
  · exact .inr rfl
/-- what values_in gives lies deeper, and is smaller, all in all -/
theorem values_less {f : D → Bool} {d : D} {xs : List D} (h : valuesF f d = some xs) (ok : okD d) : (∀ x ∈ xs, x.depth < d.depth ∧ okD x) ∧ nodesL xs < nodes d ∧ ((∃ z, d = .str z) ∨ ∃ k r, d = .tup (.str k :: r)) := by
  have hp := nodes_pos d
  have nilc : xs = [] → (∀ x ∈ xs, x.depth < d.depth ∧ okD x) ∧ nodesL xs < nodes d := fun e => by subst e; exact ⟨fun x hx => by simp at hx, by simp only [nodesL]; omega⟩
  unfold valuesF at h
  split at h
  · rename_i z
    split at h
    · cases h; exact ⟨(nilc rfl).1, (nilc rfl).2, .inl ⟨z, rfl⟩⟩
    · cases h
  · rename_i k a r
    have dp : ∀ x ∈ .str k :: a :: r, x.depth < (D.tup (.str k :: a :: r)).depth ∧ okD x := fun x hx => ⟨tup_depth hx, ok.tup hx⟩
    suffices hh : (∀ x ∈ xs, x.depth < (D.tup (.str k :: a :: r)).depth ∧ okD x) ∧ nodesL xs < nodes (D.tup (.str k :: a :: r)) from ⟨hh.1, hh.2, .inr ⟨k, a :: r, rfl⟩⟩
    split at h
    · split at h
      · split at h
        · cases h; exact nilc rfl
        · cases h
      · cases h
    · split at h
      · split at h
        · rename_i b
          cases h
          exact ⟨fun x hx => dp x (by simp at hx ⊢; rcases hx with rfl | rfl <;> simp), by simp only [nodes, nodesL]; omega⟩
        · cases h
      · split at h
        · split at h
          · cases h
            exact ⟨fun x hx => dp x (by simp at hx ⊢; rcases hx with rfl; simp), by simp only [nodes, nodesL]; omega⟩
          · cases h
        · split at h
          · rename_i hc
            obtain ⟨ys, rfl⟩ := clos_inv hc
            cases h
            have o3 := dp (.tup ys) (by simp)
            refine ⟨fun x hx => ⟨Nat.lt_trans (tup_depth (show x ∈ ys from hx)) o3.1, o3.2.tup hx⟩, ?_⟩
            show nodesL ys < _
            simp only [nodes, nodesL]; omega
          · split at h
            · rename_i ht
              obtain ⟨rows, b, rfl, rfl, hrows⟩ := tab_inv ht
              cases h
              have oa := dp (.tup rows) (by simp)
              have ob := dp b (by simp)
              constructor
              · intro x hx
                rcases List.mem_append.mp hx with hx | hx
                · obtain ⟨y, hy, hx⟩ := List.mem_flatMap.mp (show x ∈ rows.flatMap its from hx)
                  obtain ⟨ys, rfl⟩ := hrows y hy
                  exact ⟨Nat.lt_trans (tup_depth (show x ∈ ys from hx)) (Nat.lt_trans (tup_depth hy) oa.1), (oa.2.tup hy).tup hx⟩
                · have : x = b := by
                    unfold tailD at hx
                    split at hx
                    · simp at hx
                    · simpa [third] using hx
                  subst this
                  exact ob
              · show nodesL (rows.flatMap its ++ tailD b) < _
                have := flat_nodes rows
                have e9 : nodesL (tailD b) ≤ nodes b := by
                  unfold tailD
                  split
                  · simp [nodesL]
                  · simp [nodesL]
                rw [nodesL_app]
                simp only [nodes, nodesL]; omega
            · split at h
              · cases h; exact nilc rfl
              · cases h
  · cases h
theorem values_congr {f g : D → Bool} {d : D} (ok : okD d) (h : ∀ x, okD x → x.depth < d.depth → f x = g x) : valuesF f d = valuesF g d := by
  have e : ∀ k a r, d = .tup (.str k :: a :: r) → tableF f d = tableF g d := fun k a r hd => by
    subst hd
    unfold tableF
    split
    · rename_i k' rows b e
      cases e
      congr 1
      apply Bool.eq_iff_iff.mpr
      rw [List.all_eq_true, List.all_eq_true]
      have q : ∀ x ∈ rows, rowOk f x = rowOk g x := fun x hx => by
        unfold rowOk
        split
        · rename_i u w
          refine h u (((ok.tup (x := .tup rows) (by simp)).tup hx).tup (by simp)) (Nat.lt_trans (tup_depth (xs := [u, w]) (by simp)) (Nat.lt_trans (tup_depth hx) (tup_depth (by simp))))
        · rfl
      exact ⟨fun z x hx => by rw [← q x hx]; exact z x hx, fun z x hx => by rw [q x hx]; exact z x hx⟩
    · rfl
  unfold valuesF
  split
  · rfl
  · rename_i k a r
    rw [e k a r rfl]
  · rfl
theorem all_congr {f g : D → Bool} : ∀ {xs : List D}, (∀ x ∈ xs, f x = g x) → xs.all f = xs.all g
  | [], _ => rfl
  | x :: r, h => by rw [List.all_cons, List.all_cons, h x (by simp), all_congr fun y hy => h y (by simp [hy])]
theorem bare_stable : ∀ (n m : Nat) (d : D), okD d → d.depth < n → d.depth < m → bareF n d = bareF m d
  | 0, _, _, _, h, _ => by omega
  | _ + 1, 0, _, _, _, h => by omega
  | n + 1, m + 1, d, ok, hn, hm => by
    unfold bareF
    rw [values_congr ok fun x okx hx => bare_stable n m x okx (by omega) (by omega)]
    cases hv : valuesF (bareF m) d with
    | none => rfl
    | some xs =>
      dsimp only
      have hl := (values_less hv ok).1
      rw [all_congr fun x hx => bare_stable n m x (hl x hx).2 (by have := (hl x hx).1; omega) (by have := (hl x hx).1; omega)]
theorem bare_eq {d : D} (ok : okD d) : bare d = match valuesF bare d with
    | none => false
    | some xs => headOk d && xs.all bare := by
  have e : ∀ x, okD x → x.depth < d.depth → bareF d.depth x = bare x := fun x okx hx => bare_stable _ _ x okx hx (by omega)
  show bareF (d.depth + 1) d = _
  unfold bareF
  rw [values_congr ok e]
  cases hv : valuesF bare d with
  | none => rfl
  | some xs =>
    dsimp only
    have hl := (values_less hv ok).1
    rw [all_congr fun x hx => e x (hl x hx).2 (hl x hx).1]
/-- every part is one -/
def valF : Nat → D → Bool
  | 0, _ => false
  | n + 1, d => match valuesF bare d with
    | none => false
    | some xs => xs.all (valF n)
def valu (d : D) : Bool := valF (d.depth + 1) d
theorem val_stable : ∀ (n m : Nat) (d : D), okD d → d.depth < n → d.depth < m → valF n d = valF m d
  | 0, _, _, _, h, _ => by omega
  | _ + 1, 0, _, _, _, h => by omega
  | n + 1, m + 1, d, ok, hn, hm => by
    unfold valF
    cases hv : valuesF bare d with
    | none => rfl
    | some xs =>
      dsimp only
      have hl := (values_less hv ok).1
      rw [all_congr fun x hx => val_stable n m x (hl x hx).2 (by have := (hl x hx).1; omega) (by have := (hl x hx).1; omega)]
theorem val_eq {d : D} (ok : okD d) : valu d = match valuesF bare d with
    | none => false
    | some xs => xs.all valu := by
  show valF (d.depth + 1) d = _
  unfold valF
  cases hv : valuesF bare d with
  | none => rfl
  | some xs =>
    dsimp only
    have hl := (values_less hv ok).1
    rw [all_congr fun x hx => val_stable d.depth (x.depth + 1) x (hl x hx).2 (hl x hx).1 (by omega)]
    rfl
abbrev sp_is_value (n : Nat) : SpD := spF1 (okDn n) fun d => .bl (valu d)
theorem k_is_value (n : Nat) : Keeps 1 3 (sp_is_value n) (t_is_value (sp_values_in bare n)) := by
  rintro as Qd Xd - ⟨d, rfl, h1, h2⟩
  have loop : ∀ (m : Nat) (st : List D) (s2 : S) (De : EndsD), s2.fixd = false → nodesL st ≤ m → m ≤ 100000 → (∀ x ∈ st, okDn n x) → (st.all valu = true → ∀ e, (∃ s t, e = [.d d, s, t]) → De.nx e) → (st.all valu = false → ∀ e, (∃ s t, e = [.d d, s, t]) → De.rt (.bl false) e) →
      whileN (w1_is_value (sp_values_in bare n)) (b1_is_value (sp_values_in bare n)) (fun x e => Xd x (merge [.d d] e)) De (m + 1) [.d d, .ol st.reverse, s2] := by
    intro m
    induction m with
    | zero =>
      intro st s2 De hs hm hm2 hok hy hno
      have : st = [] := by
        cases st with
        | nil => rfl
        | cons x r => have := nodes_pos x; simp only [nodesL] at hm; omega
      subst this
      refine x_while ?_
      unfold w1_is_value b1_is_value
      walk_at "l3"
      refine ne_nil rfl ?_
      walk_at "l3"
      exact hy rfl _ ⟨.ol [], s2, by simp⟩
    | succ m ih =>
      intro st s2 De hs hm hm2 hok hy hno
      have hnois : D.nois st.reverse = true := nois_of fun x hx => (hok x (by simpa using hx)).1.noi
      refine x_while ?_
      unfold w1_is_value b1_is_value
      walk_at "l3"
      refine ne_nil hnois ?_
      walk_at "l3"
      cases st with
      | nil =>
        walk_at "l3"
        exact hy rfl _ ⟨.ol [], s2, by simp⟩
      | cons x r =>
        have hx := hok x (by simp)
        have hr : ∀ y ∈ r, okDn n y := fun y hy => hok y (by simp [hy])
        have hxp := nodes_pos x
        have hrl := len_nodesL r
        simp only [nodesL] at hm
        have hrr : r.reverse.length = r.length := List.length_reverse
        rw [if_pos (by simp)]
        walk_at "l3"
        refine x_pop rfl List.reverse_cons ?_
        walk_at "l3"
        refine ⟨x, rfl, hx, ?_⟩
        have hv := val_eq hx.1
        cases hvx : valuesF bare x with
        | none =>
          rw [hvx] at hv
          simp only [vD, hvx]
          walk_at "l3"
          exact hno (by simp [hv]) _ ⟨_, _, rfl⟩
        | some xs =>
          rw [hvx] at hv
          dsimp only at hv
          obtain ⟨hl, hln, _⟩ := values_less hvx hx.1
          have hxl := len_nodesL xs
          simp only [vD, hvx]
          walk_at "l3"
          have e1 : r.reverse ++ xs = (xs.reverse ++ r).reverse := by simp
          rw [e1]
          refine ih (xs.reverse ++ r) (.d (.lst xs)) De rfl (by rw [nodesL_app, nodesL_rev]; omega) (by omega) (fun y hy => ?_) (fun h => hy ?_) (fun h => hno ?_)
          · rcases List.mem_append.mp hy with hy | hy
            · have := hl y (List.mem_reverse.mp hy)
              exact ⟨this.2, Nat.le_trans (Nat.le_of_lt this.1) hx.2⟩
            · exact hr y hy
          · simp only [List.all_append, List.all_reverse, List.all_cons, hv] at h ⊢
            exact h
          · simp only [List.all_append, List.all_reverse, List.all_cons, hv] at h ⊢
            exact h
  unfold t_is_value
  walk_at "l3"
  refine x_wh (nodes d + 1) (loop (nodes d) [d] .no _ rfl (by simp [nodesL]) h1.1.few (by simpa using h1) ?_ ?_)
  · rintro hst e ⟨s, t, rfl⟩
    walk_at "l3"
    simpa [show valu d = true by simpa using hst] using h2
  · rintro hst e ⟨s, t, rfl⟩
    walk_at "l3"
    simpa [show valu d = false by simpa using hst] using h2

theorem val_str {f : D → Bool} {z : Str} {xs : List D} (h : valuesF f (.str z) = some xs) : z = "unit" := by
  unfold valuesF at h
  dsimp only at h
  split at h
  · rename_i q; simpa using q
  · cases h
theorem k_is_bare (n : Nat) : Keeps 1 4 (sp_is_bare bare n) (t_is_bare (sp_values_in bare n)) := by
  rintro as Qd Xd - ⟨d, rfl, h1, h2⟩
  have loop : ∀ (m : Nat) (st : List D) (s2 s3 : S) (De : EndsD), s2.fixd = false → s3.fixd = false → nodesL st ≤ m → m ≤ 100000 → (∀ x ∈ st, okDn n x) → (st.all bare = true → ∀ e, (∃ s t u, e = [.d d, s, t, u]) → De.nx e) → (st.all bare = false → ∀ e, (∃ s t u, e = [.d d, s, t, u]) → De.rt (.bl false) e) →
      whileN (w1_is_bare (sp_values_in bare n)) (b1_is_bare (sp_values_in bare n)) (fun x e => Xd x (merge [.d d] e)) De (m + 1) [.d d, .ol st.reverse, s2, s3] := by
    intro m
    induction m with
    | zero =>
      intro st s2 s3 De hs hs3 hm hm2 hok hy hno
      have : st = [] := by
        cases st with
        | nil => rfl
        | cons x r => have := nodes_pos x; simp only [nodesL] at hm; omega
      subst this
      refine x_while ?_
      unfold w1_is_bare b1_is_bare
      walk_at "l3"
      refine ne_nil rfl ?_
      walk_at "l3"
      exact hy rfl _ ⟨.ol [], s2, s3, by simp⟩
    | succ m ih =>
      intro st s2 s3 De hs hs3 hm hm2 hok hy hno
      have hnois : D.nois st.reverse = true := nois_of fun x hx => (hok x (by simpa using hx)).1.noi
      refine x_while ?_
      unfold w1_is_bare b1_is_bare
      walk_at "l3"
      refine ne_nil hnois ?_
      walk_at "l3"
      cases st with
      | nil =>
        walk_at "l3"
        exact hy rfl _ ⟨.ol [], s2, s3, by simp⟩
      | cons x r =>
        have hx := hok x (by simp)
        have hr : ∀ y ∈ r, okDn n y := fun y hy => hok y (by simp [hy])
        have hxp := nodes_pos x
        have hrl := len_nodesL r
        simp only [nodesL] at hm
        have hrr : r.reverse.length = r.length := List.length_reverse
        rw [if_pos (by simp)]
        walk_at "l3"
        refine x_pop rfl List.reverse_cons ?_
        walk_at "l3"
        refine ⟨x, rfl, hx, ?_⟩
        have hv := bare_eq hx.1
        cases hvx : valuesF bare x with
        | none =>
          rw [hvx] at hv
          simp only [vD, hvx]
          walk_at "l3"
          exact hno (by simp [hv]) _ ⟨_, _, _, rfl⟩
        | some xs =>
          rw [hvx] at hv
          dsimp only at hv
          obtain ⟨hl, hln, hform⟩ := values_less hvx hx.1
          have hxl := len_nodesL xs
          have e1 : r.reverse ++ xs = (xs.reverse ++ r).reverse := by simp
          have next : headOk x = true → whileN (w1_is_bare (sp_values_in bare n)) (b1_is_bare (sp_values_in bare n)) (fun x e => Xd x (merge [.d d] e)) De (m + 1) [.d d, .ol (r.reverse ++ xs), .d x, .d (.lst xs)] := fun hh => by
            rw [e1]
            rw [hh, Bool.true_and] at hv
            refine ih (xs.reverse ++ r) (.d x) (.d (.lst xs)) De rfl rfl (by rw [nodesL_app, nodesL_rev]; omega) (by omega) (fun y hy => ?_) (fun h => hy ?_) (fun h => hno ?_)
            · rcases List.mem_append.mp hy with hy | hy
              · have := hl y (List.mem_reverse.mp hy)
                exact ⟨this.2, Nat.le_trans (Nat.le_of_lt this.1) hx.2⟩
              · exact hr y hy
            · simp only [List.all_append, List.all_reverse, List.all_cons, hv] at h ⊢
              exact h
            · simp only [List.all_append, List.all_reverse, List.all_cons, hv] at h ⊢
              exact h
          simp only [vD, hvx]
          walk_at "l3"
          rcases hform with ⟨z, rfl⟩ | ⟨k, q, rfl⟩
          · have hz := val_str hvx
            subst hz
            refine x_ne rfl ?_
            walk_at "l3"
            exact next rfl
          · refine x_ne (by simp [eqOk_s hx.1.noi, D.isDct]) ?_
            walk_at "l3"
            refine x_notin_t rfl rfl ?_
            walk_at "l3"
            cases hk : inD (.str k) innerL with
            | true =>
              have hk' : inD (.str k) [.str "token", .str "pair", .str "left", .str "right"] = true := hk
              rw [hk']
              walk_at "l3"
              exact next hk
            | false =>
              have hk' : inD (.str k) [.str "token", .str "pair", .str "left", .str "right"] = false := hk
              rw [hk']
              walk_at "l3"
              refine hno ?_ _ ⟨_, _, _, rfl⟩
              rw [List.all_cons, hv]
              simp [headOk, hk]
  unfold t_is_bare
  walk_at "l3"
  refine x_wh (nodes d + 1) (loop (nodes d) [d] .no .no _ rfl rfl (by simp [nodesL]) h1.1.few (by simpa using h1) ?_ ?_)
  · rintro hst e ⟨s, t, u, rfl⟩
    walk_at "l3"
    simpa [show bare d = true by simpa using hst] using h2
  · rintro hst e ⟨s, t, u, rfl⟩
    walk_at "l3"
    simpa [show bare d = false by simpa using hst] using h2

/-! ### the well -/
theorem nois_ints : ∀ cs : List Int, D.nois (cs.map D.int) = true
  | [] => rfl
  | _ :: r => by simp only [List.map_cons, D.nois, nois_ints r]; rfl
theorem at_ints {cs : List Int} {i : Int} (h0 : 0 ≤ i) (h1 : i < cs.length) : ∃ c, atI (cs.map D.int) i = some (.int c) := by
  have hl : i.toNat < cs.length := by omega
  refine ⟨cs[i.toNat], ?_⟩
  unfold atI ixN
  rw [List.length_map, if_pos h0, if_pos h1]
  simp [List.getElem?_eq_getElem hl]
theorem draw_tail {cs : List Int} {t r many cell : Int} {as : List S} {Qd : D → List S → Prop} {Xd : XD} {s2 : S} (hcs : cs.length ≤ 60) (ht : 0 ≤ t) (ht2 : t < 2 ^ 40) (hm : 2 ≤ many) (hm2 : many ≤ 1000000) (h2 : s2.fixd = false) (hr : 0 ≤ r)
    (hq : ∀ x r' : Int, 0 ≤ x → x < many → 0 ≤ r' → ∀ e, (∃ s3 s4 s5 s6, e = [wl3 cs (t + 1) r', .d (.int many), s3, s4, s5, s6]) → Qd (.int x) (merge as e)) :
    u__law_draw Xd (fin as Qd) [wl3 cs (t + 1) r, .d (.int many), s2, .d (.int t), .d (.int cell), .no] := by
  have hl : (cs.map D.int).length ≤ 1000000 := by rw [List.length_map]; omega
  unfold u__law_draw wl3
  walk_at "l3"
  rw [List.length_map]
  have fin1 : ∀ s3 : S, s3.fixd = false → (dSeq (dSet 5 (dBin r3Mod (dUn r31Int (dBin r3PowG (dBin r3Plus (dBin r3Plus (dBin r3Mod (dUn r31Int (dVar 4)) (dC (.int (2147483549)))) (dBin r3Star (dC (.int (42625))) (dVar 3))) (dC (.int (9205)))) (dC (.int (5))))) (dC (.int (2147483587)))))
  (dSeq (dSet 5 (dBin r3Mod (dUn r31Int (dBin r3PowG (dBin r3Plus (dBin r3Plus (dBin r3Star (dVar 5) (dBin r3Plus (dBin r3Star (dC (.int (2))) (dVar 3)) (dC (.int (5719))))) (dBin r3Star (dBin r3Star (dC (.int (50905))) (dVar 3)) (dVar 3))) (dC (.int (42625)))) (dC (.int (3))))) (dC (.int (2147483629)))))
  (dRet (dBin r3Mod (dUn r31Int (dBin r3Div (dVar 5) (dC (.int (64))))) (dVar 1))))) Xd (fin as Qd) [.wl [.lst (cs.map D.int), .int (t + 1), .int r], .d (.int many), s3, .d (.int t), .d (.int cell), .no] := by
    intro s3 h3
    have p1 : CPowG (cell % 2147483549 + 42625 * t + 9205) 5 := by
      refine ⟨by decide, by decide, ?_⟩
      have : (cell % 2147483549 + 42625 * t + 9205).natAbs < 2 ^ 60 := by omega
      exact Nat.lt_trans this (Nat.pow_lt_pow_right (by decide) (by decide))
    walk_at "l3"
    generalize hb : (cell % 2147483549 + 42625 * t + 9205) ^ (5 : Nat) % 2147483587 = b
    have hb1 : 0 ≤ b := by rw [← hb]; exact Int.emod_nonneg _ (by decide)
    have hb2 : b < 2147483587 := by rw [← hb]; exact Int.emod_lt_of_pos _ (by decide)
    have c1 : CMul b (2 * t + 5719) := .inl ⟨by omega, by omega⟩
    have c2 : CMul (50905 * t) t := .inr ⟨by omega, by omega⟩
    have p2 : CPowG (b * (2 * t + 5719) + 50905 * t * t + 42625) 3 := by
      refine ⟨by decide, by decide, ?_⟩
      have q1 : b * (2 * t + 5719) ≤ 2 ^ 31 * 2 ^ 42 := Int.mul_le_mul (by omega) (by omega) (by omega) (by omega)
      have q2 : 0 ≤ b * (2 * t + 5719) := Int.mul_nonneg hb1 (by omega)
      have q3 : 50905 * t * t ≤ 2 ^ 60 * 2 ^ 40 := Int.mul_le_mul (by omega) (by omega) (by omega) (by omega)
      have q4 : 0 ≤ 50905 * t * t := Int.mul_nonneg (by omega) ht
      have : (b * (2 * t + 5719) + 50905 * t * t + 42625).natAbs < 2 ^ 110 := by omega
      exact Nat.lt_trans this (Nat.pow_lt_pow_right (by decide) (by decide))
    walk_at "l3"
    generalize hd : (b * (2 * t + 5719) + 50905 * t * t + 42625) ^ (3 : Nat) % 2147483629 = d
    exact hq _ r (Int.emod_nonneg _ (by omega)) (Int.emod_lt_of_pos _ (by omega)) hr _ ⟨_, _, _, _, rfl⟩
  by_cases h1 : t < cs.length
  · rw [if_pos (by simpa using h1)]
    walk_at "l3"
    cases hab : decide ((10 : Int) ^ 18 ≤ if cell < 0 then -cell else cell) with
    | false => exact x_iff (fin1 s2 h2)
    | true =>
      have hab' : (1000000000000000000 : Int) ≤ if cell < 0 then -cell else cell := by simpa using hab
      have hX : 0 ≤ 2 * ((if cell < 0 then -cell else cell) - 10 ^ 18) + (if decide (cell < 0) = true then 1 else 0) := by
        have : (10 : Int) ^ 18 = 1000000000000000000 := by decide
        rw [this]
        split <;> omega
      walk_at "l3"
      generalize (2 * ((if cell < 0 then -cell else cell) - 10 ^ 18) + (if decide (cell < 0) = true then 1 else 0) : Int) = x at hX ⊢
      exact hq _ (x / many) (Int.emod_nonneg _ (by omega)) (Int.emod_lt_of_pos _ (by omega)) (Int.ediv_nonneg hX (by omega)) _ ⟨_, _, _, _, rfl⟩
  · rw [if_neg (by simpa using h1)]
    exact x_iff (fin1 s2 h2)
theorem k_draw : Keeps 2 6 spDraw1 t__law_draw := by
  rintro as Qd Xd - ⟨cs, t, r, many, rfl, hcs, ht, ht2, hr, hm, hq⟩
  have hl : (cs.map D.int).length ≤ 1000000 := by rw [List.length_map]; omega
  unfold t__law_draw wl3
  walk_at "l3"
  by_cases m2 : many < 2
  · rw [if_pos (by simpa using m2)]
    walk_at "l3"
    exact hq 0 t r (by omega) (fun h => by omega) ht (by omega) hr
  rw [if_neg (by simpa using m2)]
  walk_at "l3"
  by_cases hr0 : 0 < r
  · rw [if_pos (by simpa using hr0)]
    walk_at "l3"
    exact hq (r % many) t (r / many) (Int.emod_nonneg _ (by omega)) (fun _ => Int.emod_lt_of_pos _ (by omega)) ht (by omega) (Int.ediv_nonneg hr (by omega))
  rw [if_neg (by simpa using hr0)]
  walk_at "l3"
  refine ne_nil (nois_ints cs) ?_
  walk_at "l3"
  have tl : ∀ cell : Int, u__law_draw (fun x e => Xd x (merge [.wl [.lst (cs.map D.int), .int t, .int r], .d (.int many)] e)) (fin [wl3 cs t r, .d (.int many)] Qd) [wl3 cs (t + 1) r, .d (.int many), .no, .d (.int t), .d (.int cell), .no] := fun cell =>
    draw_tail hcs ht ht2 (by omega) hm rfl hr fun x r' k1 k2 k3 e ⟨s3, s4, s5, s6, he⟩ => by
      subst he
      exact hq x (t + 1) r' k1 (fun _ => k2) (by omega) (by omega) k3
  cases cs with
  | nil =>
    walk_at "l3"
    exact tl _
  | cons c cr =>
    rw [if_pos (by simp)]
    walk_at "l3"
    have hlen : (0 : Int) < ((c :: cr).length : Nat) := by simp only [List.length_cons]; omega
    obtain ⟨c', hc'⟩ := at_ints (cs := c :: cr) (i := t % ((c :: cr).length : Nat)) (Int.emod_nonneg _ (by omega)) (Int.emod_lt_of_pos _ hlen)
    rw [List.length_map]
    refine x_mod hlen ?_
    walk_at "l3"
    refine x_ix_l hc' ?_
    walk_at "l3"
    exact tl c'

theorem cut60 (xs : List D) : L3.cutD xs none (some 60) = xs.take 60 := by
  unfold L3.cutD
  have e1 : HT.sIx xs.length 0 none = 0 := rfl
  rw [e1, List.drop_zero, Nat.sub_zero]
  by_cases h : 60 ≤ xs.length
  · have e2 : HT.sIx xs.length xs.length (some 60) = 60 := by
      unfold HT.sIx
      simp
      omega
    rw [e2]
  · have e2 : HT.sIx xs.length xs.length (some 60) = xs.length := by
      unfold HT.sIx
      simp
      omega
    rw [e2, List.take_of_length_le (Nat.le_refl _), List.take_of_length_le (by omega)]
theorem k_well : ∀ (as : List S) (Qd : List D → List S → Prop) (Xd : XV → List S → Prop), as.length = 1 → spWell as Qd Xd → t__law_well (fun x e => Xd x (merge as e)) (startE 2 as) (fun ρ e => ∃ xs, ρ = .tl xs ∧ Qd xs (merge as e)) := by
  rintro as Qd Xd - ⟨ns, rfl, hl, hq⟩
  unfold t__law_well
  walk_at "l3"
  show dLc _ _ _ _ _ _ _ _
  unfold dLc
  walk_at "l3"
  refine ⟨ns.map D.int, rfl, ?_⟩
  walk_at "l3"
  rw [cut60, ← List.map_take]
  have hlt : (ns.take 60).length ≤ 60 := List.length_take_le _ _
  refine ⟨okV1 rfl rfl, lcN_map 1 (fun x => x) _ rfl _ (fun x hx Q' q => ?_) (by rw [List.length_map]; omega) ?_⟩
  · obtain ⟨i, _, rfl⟩ := List.mem_map.mp hx
    walk_at "l3"
    exact q
  · walk_at "l3"
    refine ⟨_, rfl, ?_⟩
    rw [show ((ns.take 60).map D.int).map (fun x => x) = (ns.take 60).map D.int from List.map_id' _]
    exact hq
def spOne : SpD := fun as Qd _ => ∃ (n : Nat) (xs : List D), as = [.well n, .d (.lst xs)] ∧ n < 2 ^ 40 ∧ xs ≠ [] ∧ xs.length ≤ 1000 ∧ ∀ x ∈ xs, Qd x [.well (n + 1), .d (.lst xs)]
theorem k_one : Keeps 2 2 spOne (t__law_one spDraw) := by
  rintro as Qd Xd - ⟨n, xs, rfl, hn, hne, hl, hq⟩
  have hl' : xs.length ≤ 1000000 := by omega
  have hlp : 0 < xs.length := List.length_pos_iff.mpr hne
  unfold t__law_one
  walk_at "l3"
  refine ⟨0, [.d (.int xs.length)], [.int xs.length], .well n, rfl, rfl, rfl, rfl, rfl, n, xs.length, rfl, hn, by omega, fun x h0 h1 => ?_⟩
  have h2 := h1 (by omega)
  refine ⟨.well (n + 1), [.d (.int xs.length)], rfl, ?_⟩
  have hi : x.toNat < xs.length := by omega
  have ha : atI xs x = some xs[x.toNat] := by
    unfold atI ixN
    rw [if_pos h0, if_pos (by omega)]
    simp [List.getElem?_eq_getElem hi]
  walk_at "l3"
  refine x_ix_l ha ?_
  walk_at "l3"
  exact hq _ (List.getElem_mem hi)
def Nn : Nat → Nat
  | 0 => 40
  | k + 1 => 6 * Nn k + 40
/-- a value of the law, deep k; p: is it a bare one -/
structure Gd (k : Nat) (v : D) (p : Bool) : Prop where
  noi : v.noi = true
  few : nodes v ≤ Nn k
  low : v.depth ≤ 3 * k + 5
  val : valu v = true
  bar : bare v = p
def leaf1 : List D := [.str "unit", .tup [.str "token", .str "a", .int 0], .tup [.str "token", .str "zz", .non], .tup [.str "token", .str "a", .tup [.str "call", .lst [.int 1], .dct [] []]]]
theorem leaf1_ok : leaf1.all (fun v => v.noi && decide (nodes v ≤ 40) && decide (v.depth ≤ 5) && valu v && bare v) = true := by decide +kernel
def leaf2 : List D := [.str "a", .str "no", .tup [.str "gives", .str "a", .tup [.str "or", .str "b", .str "no"]]]
theorem leaf2_ok : (leaf2.map fun x => D.tup [.str "plain", x]).all (fun v => v.noi && decide (nodes v ≤ 40) && decide (v.depth ≤ 5) && valu v && !bare v) = true := by decide +kernel
def wA : List D := [.str "a", .tup [.str "and", .str "a", .str "b"]]
def wB : List D := [.str "yes", .tup [.str "gives", .str "a", .str "b"]]
def wC : List D := [.non, .str "x", .tup [.str "level", .int 3], .lst [.int 5]]
def okL (b : Bool) (v : D) : Bool := v.noi && decide (nodes v ≤ 40) && decide (v.depth ≤ 5) && valu v && (bare v == b)
theorem okL_gd {b : Bool} {v : D} (h : okL b v = true) (k : Nat) : Gd k v b := by
  simp only [okL, Bool.and_eq_true, decide_eq_true_eq, beq_iff_eq] at h
  obtain ⟨⟨⟨⟨h1, h2⟩, h3⟩, h4⟩, h5⟩ := h
  have : 40 ≤ Nn k := by cases k <;> simp only [Nn] <;> omega
  exact ⟨h1, by omega, by omega, h4, h5⟩
theorem leaf1_gd : leaf1.all (okL true) = true := by decide +kernel
theorem leaf2_gd : leaf2.all (fun x => okL false (.tup [.str "plain", x])) = true := by decide +kernel
theorem leaf3_gd : wA.all (fun a => wB.all fun b => wC.all fun c => okL false (.tup [.str "writer", a, b, c])) = true := by decide +kernel
def leaf4 : List D := [.int 0, .int 7, .int (10 ^ 30)]
theorem leaf4_gd : leaf4.all (fun x => okL false (.tup [.str "closure", x, .tup []])) = true := by decide +kernel
theorem Nn_pos (k : Nat) : 40 ≤ Nn k := by cases k <;> simp only [Nn] <;> omega
theorem Nn_le : ∀ k : Nat, k ≤ 3 → Nn k ≤ 20000
  | 0, _ => by decide
  | 1, _ => by decide
  | 2, _ => by decide
  | 3, _ => by decide
  | n + 4, h => by omega
theorem Gd.ok {k : Nat} {v : D} {p : Bool} (g : Gd k v p) (hk : k ≤ 3) : okD v := ⟨g.noi, by have := g.few; have := Nn_le k hk; omega, by have := g.low; omega⟩
theorem gd_closure {k : Nat} {xs : List D} {r : Int} (hk : k + 1 ≤ 3) (hr : 0 ≤ r) (hl : xs.length ≤ 2) (hx : ∀ x ∈ xs, ∃ p, Gd k x p) (hn : nodesL xs ≤ 2 * Nn k) (hd : D.depths xs ≤ 3 * k + 5) : Gd (k + 1) (.tup [.str "closure", .int r, .tup xs]) false := by
  have h40 := Nn_pos k
  have hno : D.nois xs = true := nois_of fun x h => (hx x h).choose_spec.noi
  have hl3 := Nn_le (k + 1) hk
  have few : nodes (.tup [.str "closure", .int r, .tup xs]) ≤ Nn (k + 1) := by
    have : (("closure" : Str)).length = 7 := by decide
    simp only [nodes, nodesL, Nn, this]
    omega
  have low : (D.tup [.str "closure", .int r, .tup xs]).depth ≤ 3 * (k + 1) + 5 := by
    simp only [D.depth, D.depths]
    omega
  have noi : (D.tup [.str "closure", .int r, .tup xs]).noi = true := by simp [D.noi, D.nois, hno]
  have ok : okD (.tup [.str "closure", .int r, .tup xs]) := ⟨noi, by omega, by omega⟩
  have hv : valuesF bare (.tup [.str "closure", .int r, .tup xs]) = some xs := by
    simp [valuesF, isClosure, isWithin, ofS_inj, hr, third, its]
  refine ⟨noi, few, low, ?_, ?_⟩
  · rw [val_eq ok, hv]
    exact List.all_eq_true.mpr fun x h => (hx x h).choose_spec.val
  · rw [bare_eq ok, hv]
    have : headOk (.tup [.str "closure", .int r, .tup xs]) = false := by
      show inD (.str "closure") innerL = false
      decide
    simp [this]
theorem gd_pair {k : Nat} {a b : D} {p q : Bool} (hk : k + 1 ≤ 3) (ga : Gd k a p) (gb : Gd k b q) : Gd (k + 1) (.tup [.str "pair", a, b]) (p && q) := by
  have h40 := Nn_pos k
  have hl3 := Nn_le (k + 1) hk
  have fa := ga.few
  have fb := gb.few
  have da := ga.low
  have db := gb.low
  have few : nodes (.tup [.str "pair", a, b]) ≤ Nn (k + 1) := by
    have : (("pair" : Str)).length = 4 := by decide
    simp only [nodes, nodesL, Nn, this]
    omega
  have low : (D.tup [.str "pair", a, b]).depth ≤ 3 * (k + 1) + 5 := by
    simp only [D.depth, D.depths]
    omega
  have noi : (D.tup [.str "pair", a, b]).noi = true := by simp [D.noi, D.nois, ga.noi, gb.noi]
  have ok : okD (.tup [.str "pair", a, b]) := ⟨noi, by omega, by omega⟩
  have hv : valuesF bare (.tup [.str "pair", a, b]) = some [a, b] := by simp [valuesF, ofS_inj]
  refine ⟨noi, few, low, ?_, ?_⟩
  · rw [val_eq ok, hv]
    simp [ga.val, gb.val]
  · rw [bare_eq ok, hv]
    have : headOk (.tup [.str "pair", a, b]) = true := by
      show inD (.str "pair") innerL = true
      decide
    simp [this, ga.bar, gb.bar]
theorem gd_lr {k : Nat} {a : D} {p : Bool} {z : Str} (hk : k + 1 ≤ 3) (hz : z = "left" ∨ z = "right") (ga : Gd k a p) : Gd (k + 1) (.tup [.str z, a]) p := by
  have h40 := Nn_pos k
  have hl3 := Nn_le (k + 1) hk
  have fa := ga.few
  have da := ga.low
  have hzl : z.length ≤ 5 := by rcases hz with rfl | rfl <;> decide
  have few : nodes (.tup [.str z, a]) ≤ Nn (k + 1) := by
    simp only [nodes, nodesL, Nn]
    omega
  have low : (D.tup [.str z, a]).depth ≤ 3 * (k + 1) + 5 := by
    simp only [D.depth, D.depths]
    omega
  have noi : (D.tup [.str z, a]).noi = true := by simp [D.noi, D.nois, ga.noi]
  have ok : okD (.tup [.str z, a]) := ⟨noi, by omega, by omega⟩
  have hv : valuesF bare (.tup [.str z, a]) = some [a] := by rcases hz with rfl | rfl <;> simp [valuesF, ofS_inj]
  refine ⟨noi, few, low, ?_, ?_⟩
  · rw [val_eq ok, hv]
    simp [ga.val]
  · rw [bare_eq ok, hv]
    have : headOk (.tup [.str z, a]) = true := by
      show inD (.str z) innerL = true
      rcases hz with rfl | rfl <;> decide
    simp [this, ga.bar]
theorem gd_table {k : Nat} {f b : D} {q : Bool} {rows : List D} {l : D} (hk : k + 1 ≤ 3) (gf : Gd k f true) (gb : Gd k b q) (hr : rows = [] ∨ rows = [.tup [f, b]] ∨ rows = [.tup [f, b], .tup [f, b]]) (hl : l = .non ∨ l = b) : Gd (k + 1) (.tup [.str "table", .tup rows, l]) false := by
  have h40 := Nn_pos k
  have hl3 := Nn_le (k + 1) hk
  have fa := gf.few
  have fb := gb.few
  have da := gf.low
  have db := gb.low
  have hln : nodes l ≤ Nn k + 1 ∧ l.depth ≤ 3 * k + 5 ∧ l.noi = true := by
    rcases hl with rfl | rfl
    · exact ⟨by simp [nodes], by simp [D.depth], rfl⟩
    · exact ⟨by omega, db, gb.noi⟩
  have hrn : nodesL rows ≤ 4 * Nn k + 2 ∧ D.depths rows ≤ 3 * k + 6 ∧ D.nois rows = true := by
    rcases hr with rfl | rfl | rfl
    · exact ⟨by simp [nodesL], by simp [D.depths], rfl⟩
    · exact ⟨by simp only [nodesL, nodes]; omega, by simp only [D.depths, D.depth]; omega, by simp [D.nois, D.noi, gf.noi, gb.noi]⟩
    · exact ⟨by simp only [nodesL, nodes]; omega, by simp only [D.depths, D.depth]; omega, by simp [D.nois, D.noi, gf.noi, gb.noi]⟩
  have few : nodes (.tup [.str "table", .tup rows, l]) ≤ Nn (k + 1) := by
    have : (("table" : Str)).length = 5 := by decide
    simp only [nodes, nodesL, Nn, this]
    omega
  have low : (D.tup [.str "table", .tup rows, l]).depth ≤ 3 * (k + 1) + 5 := by
    simp only [D.depth, D.depths]
    omega
  have noi : (D.tup [.str "table", .tup rows, l]).noi = true := by simp [D.noi, D.nois, hrn.2.2, hln.2.2]
  have ok : okD (.tup [.str "table", .tup rows, l]) := ⟨noi, by omega, by omega⟩
  have ht : tableF bare (.tup [.str "table", .tup rows, l]) = true := by
    rcases hr with rfl | rfl | rfl <;> simp [tableF, rowOk, gf.bar]
  have hv : valuesF bare (.tup [.str "table", .tup rows, l]) = some (rows.flatMap its ++ tailD l) := by
    have hc : isClosure (.tup [.str "table", .tup rows, l]) = false := by
      unfold isClosure
      split
      · rename_i e; cases e; rfl
      · rfl
    simp [valuesF, ofS_inj, hc, ht, second, third, its]
  have tl : (tailD l).all valu = true := by
    rcases hl with rfl | rfl
    · rfl
    · unfold tailD
      split
      · rfl
      · simp [gb.val]
  refine ⟨noi, few, low, ?_, ?_⟩
  · rw [val_eq ok, hv]
    dsimp only
    rw [List.all_append, tl, Bool.and_true]
    rcases hr with rfl | rfl | rfl <;> simp [its, gf.val, gb.val]
  · rw [bare_eq ok, hv]
    have : headOk (.tup [.str "table", .tup rows, l]) = false := by
      show inD (.str "table") innerL = false
      decide
    simp [this]

def Bn : Nat → Nat
  | 0 => 4
  | k + 1 => 3 + 2 * Bn k
def spVal (k : Nat) : SpD := fun as Qd _ => ∃ n : Nat, as = [.well n, .d (.int k)] ∧ n + Bn k < 2 ^ 39 ∧ ∀ v p m, Gd k v p → n ≤ m → m ≤ n + Bn k → Qd (.tup [v, .bl p]) [.well m, .d (.int k)]
theorem many_eq {Xd : XD} {e : List S} {Q : R → List S → Prop} {k : Nat} (h0 : e[1]? = some (.d (.int k))) (h : Q (.d (.int (if 0 < k then 10 else 5))) e) : dIf (dB (dBin r3Gt (dVar 1) (dC (.int (0))))) (dC (.int (10))) (dC (.int (5))) Xd e Q := by
  refine x_if (x_b (x_bin (x_var h0 ?_)))
  walk_at "l3"
  by_cases c : 0 < k
  · rw [if_pos c] at h
    rw [if_pos (by simpa using c)]
    exact h
  · rw [if_neg c] at h
    rw [if_neg (by simpa using c)]
    exact h
theorem gd_leaf {b : Bool} {xs : List D} {f : D → D} (h : xs.all (fun x => okL b (f x)) = true) {x : D} (hx : x ∈ xs) (k : Nat) : Gd k (f x) b := okL_gd (List.all_eq_true.mp h x hx) k
theorem bn4 (k : Nat) : 4 ≤ Bn k := by
  induction k with
  | zero => exact Nat.le_refl 4
  | succ k ih => simp only [Bn]; omega
theorem k_value (k : Nat) (hk : k ≤ 3) (sp : SpD) (hsp : 0 < k → sp = spVal (k - 1)) : Keeps 2 8 (spVal k) (t__law_value spDraw spOne sp) := by
  rintro as Qd Xd - ⟨n, rfl, hn, hq⟩
  have b4 := bn4 k
  have hkk : (if 0 < k then (10 : Int) else 5) ≤ 10 ∧ 5 ≤ (if 0 < k then (10 : Int) else 5) := by
    by_cases c : 0 < k
    · rw [if_pos c]; omega
    · rw [if_neg c]; omega
  unfold t__law_value
  refine x_seq (x_set (x_callR (x_ref rfl rfl (x_cons (many_eq rfl ?_)))))
  walk_at "l3"
  refine ⟨0, [.d (.int (if 0 < k then (10 : Int) else 5))], [.int (if 0 < k then (10 : Int) else 5)], .well n, rfl, rfl, rfl, rfl, rfl, n, (if 0 < k then (10 : Int) else 5), rfl, by omega, by omega, fun w w0 w1 => ?_⟩; refine ⟨.well (n + 1), [.d (.int (if 0 < k then (10 : Int) else 5))], rfl, ?_⟩
  have wk := w1 (by omega)
  walk_at "l3"
  by_cases c2 : w < 2
  · rw [if_pos (by simpa using c2)]
    walk_at "l3"
    refine ⟨0, [.d (.lst leaf1)], [.lst leaf1], .well (n + 1), rfl, rfl, rfl, rfl, rfl, (n + 1), leaf1, rfl, by omega, List.cons_ne_nil _ _, (by first | decide | (simp; done)), fun v hv => ?_⟩; refine ⟨.well ((n + 1) + 1), [.d (.lst leaf1)], rfl, ?_⟩
    walk_at "l3"
    exact hq v true _ (gd_leaf (f := fun x => x) leaf1_gd hv k) (by omega) (by omega)
  rw [if_neg (by simpa using c2)]
  walk_at "l3"
  by_cases c3 : w = 2
  · rw [if_pos (by simpa using c3)]
    walk_at "l3"
    refine ⟨0, [.d (.lst leaf2)], [.lst leaf2], .well (n + 1), rfl, rfl, rfl, rfl, rfl, (n + 1), leaf2, rfl, by omega, List.cons_ne_nil _ _, (by first | decide | (simp; done)), fun v hv => ?_⟩; refine ⟨.well ((n + 1) + 1), [.d (.lst leaf2)], rfl, ?_⟩
    walk_at "l3"
    exact hq _ false _ (gd_leaf (f := fun x => .tup [.str "plain", x]) leaf2_gd hv k) (by omega) (by omega)
  rw [if_neg (by simpa using c3)]
  walk_at "l3"
  by_cases c4 : w = 3
  · rw [if_pos (by simpa using c4)]
    walk_at "l3"
    refine ⟨0, [.d (.lst wA)], [.lst wA], .well (n + 1), rfl, rfl, rfl, rfl, rfl, (n + 1), wA, rfl, by omega, List.cons_ne_nil _ _, (by first | decide | (simp; done)), fun a ha => ?_⟩; refine ⟨.well ((n + 1) + 1), [.d (.lst wA)], rfl, ?_⟩
    walk_at "l3"
    refine ⟨0, [.d (.lst wB)], [.lst wB], .well (n + 1 + 1), rfl, rfl, rfl, rfl, rfl, (n + 1 + 1), wB, rfl, by omega, List.cons_ne_nil _ _, (by first | decide | (simp; done)), fun b hb => ?_⟩; refine ⟨.well ((n + 1 + 1) + 1), [.d (.lst wB)], rfl, ?_⟩
    walk_at "l3"
    refine ⟨0, [.d (.lst wC)], [.lst wC], .well (n + 1 + 1 + 1), rfl, rfl, rfl, rfl, rfl, (n + 1 + 1 + 1), wC, rfl, by omega, List.cons_ne_nil _ _, (by first | decide | (simp; done)), fun c hc => ?_⟩; refine ⟨.well ((n + 1 + 1 + 1) + 1), [.d (.lst wC)], rfl, ?_⟩
    walk_at "l3"
    have g := List.all_eq_true.mp (List.all_eq_true.mp (List.all_eq_true.mp leaf3_gd a ha) b hb) c hc
    exact hq _ false _ (okL_gd g k) (by omega) (by omega)
  rw [if_neg (by simpa using c4)]
  walk_at "l3"
  by_cases c5 : w = 4
  · rw [if_pos (by simpa using c5)]
    walk_at "l3"
    refine ⟨0, [.d (.lst leaf4)], [.lst leaf4], .well (n + 1), rfl, rfl, rfl, rfl, rfl, (n + 1), leaf4, rfl, by omega, List.cons_ne_nil _ _, (by first | decide | (simp; done)), fun v hv => ?_⟩; refine ⟨.well ((n + 1) + 1), [.d (.lst leaf4)], rfl, ?_⟩
    walk_at "l3"
    exact hq _ false _ (gd_leaf (f := fun x => .tup [.str "closure", x, .tup []]) leaf4_gd hv k) (by omega) (by omega)
  rw [if_neg (by simpa using c5)]
  have k0 : 0 < k := by
    refine Nat.pos_of_ne_zero fun e => ?_
    subst e
    rw [if_neg (by decide)] at wk
    omega
  rw [if_pos k0] at wk
  obtain rfl := hsp k0
  clear hsp
  obtain ⟨j, rfl⟩ : ∃ j, k = j + 1 := ⟨k - 1, by omega⟩
  simp only [Bn] at hn hq
  rw [show j + 1 - 1 = j from rfl]
  have hj1 : ((j + 1 : Nat) : Int) - 1 = (j : Int) := by omega
  walk_at "l3"
  refine ⟨0, [.d (.int (((j + 1 : Nat) : Int) - 1))], [.int (((j + 1 : Nat) : Int) - 1)], .well (n + 1), rfl, rfl, rfl, rfl, rfl, n + 1, by rw [hj1]; rfl, by omega, fun v p m1 g l1 l2 => ?_⟩
  refine ⟨.well m1, [.d (.int j)], rfl, ?_⟩
  walk_at "l3"
  refine ⟨0, [.d (.int (((j + 1 : Nat) : Int) - 1))], [.int (((j + 1 : Nat) : Int) - 1)], .well m1, rfl, rfl, rfl, rfl, rfl, m1, by rw [hj1]; rfl, by omega, fun v' p' m2 g' l3 l4 => ?_⟩
  refine ⟨.well m2, [.d (.int j)], rfl, ?_⟩
  walk_at "l3"
  by_cases c6 : w = 5
  · rw [if_pos (by simpa using c6)]
    walk_at "l3"
    refine ⟨0, [.d (.int 5)], [.int 5], .well m2, rfl, rfl, rfl, rfl, rfl, m2, 5, rfl, by omega, by omega, fun x x0 x1 => ?_⟩; refine ⟨.well (m2 + 1), [.d (.int 5)], rfl, ?_⟩
    walk_at "l3"
    refine ⟨0, [.d (.int 3)], [.int 3], .well (m2 + 1), rfl, rfl, rfl, rfl, rfl, (m2 + 1), 3, rfl, by omega, by omega, fun y y0 y1 => ?_⟩; refine ⟨.well ((m2 + 1) + 1), [.d (.int 3)], rfl, ?_⟩
    have y3 := y1 (by decide)
    walk_at "l3"
    have cut : (L3.cutD [v, v'] none (some y) = [] ∨ L3.cutD [v, v'] none (some y) = [v]) ∨ L3.cutD [v, v'] none (some y) = [v, v'] := by
      rcases (by omega : (y = 0 ∨ y = 1) ∨ y = 2) with (rfl | rfl) | rfl
      · exact .inl (.inl rfl)
      · exact .inl (.inr rfl)
      · exact .inr rfl
    have gc : Gd (j + 1) (.tup [.str "closure", .int x, .tup (L3.cutD [v, v'] none (some y))]) false := by
      have f1 := g.few
      have f2 := g'.few
      have d1 := g.low
      have d2 := g'.low
      rcases cut with (e | e) | e
      · rw [e]
        exact gd_closure hk x0 (by simp) (fun x hx => by cases hx) (by simp [nodesL]) (by simp [D.depths])
      · rw [e]
        exact gd_closure hk x0 (by simp) (fun x hx => by simp at hx; subst hx; exact ⟨_, g⟩) (by simp only [nodesL]; omega) (by simp only [D.depths]; omega)
      · rw [e]
        refine gd_closure hk x0 (by simp) (fun x hx => ?_) (by simp only [nodesL]; omega) (by simp only [D.depths]; omega)
        simp at hx
        rcases hx with rfl | rfl
        · exact ⟨_, g⟩
        · exact ⟨_, g'⟩
    exact hq _ _ _ gc (by omega) (by omega)
  rw [if_neg (by simpa using c6)]
  walk_at "l3"
  by_cases c7 : w = 6
  · rw [if_pos (by simpa using c7)]
    walk_at "l3"
    have fu : ∃ f : D, Gd j f true ∧ (if p = true then v else D.str "unit") = f := by
      cases p
      · exact ⟨_, gd_leaf (f := fun x => x) leaf1_gd (List.mem_cons_self ..) j, rfl⟩
      · exact ⟨v, g, rfl⟩
    obtain ⟨f, gf, hf⟩ := fu
    have fin : ∀ y : Int, 0 ≤ y → y < 3 → ∀ l : D, (l = .non ∨ l = v') → Gd (j + 1) (.tup [.str "table", .tup (List.replicate y.toNat [D.tup [f, v']]).flatten, l]) false := by
      intro y y0 y3 l hl
      refine gd_table hk gf g' ?_ hl
      rcases (by omega : (y = 0 ∨ y = 1) ∨ y = 2) with (rfl | rfl) | rfl
      · exact .inl rfl
      · exact .inr (.inl rfl)
      · exact .inr (.inr rfl)
    cases p
    · obtain rfl := hf
      walk_at "l3"
      refine ⟨0, [.d (.int 3)], [.int 3], .well m2, rfl, rfl, rfl, rfl, rfl, m2, 3, rfl, by omega, by omega, fun y y0 y1 => ?_⟩; refine ⟨.well (m2 + 1), [.d (.int 3)], rfl, ?_⟩
      have y3 := y1 (by decide)
      walk_at "l3"
      refine Or.inr (Or.inr ⟨_, y, rfl, rfl, y0, by omega, by simp, ?_⟩)
      walk_at "l3"
      refine ⟨0, [.d (.lst [.non, v'])], [.lst [.non, v']], .well (m2 + 1), rfl, rfl, rfl, rfl, rfl, (m2 + 1), [.non, v'], rfl, by omega, List.cons_ne_nil _ _, (by first | decide | (simp; done)), fun l hl => ?_⟩; refine ⟨.well ((m2 + 1) + 1), [.d (.lst [.non, v'])], rfl, ?_⟩
      walk_at "l3"
      exact hq _ _ _ (fin y y0 y3 l (by simpa using hl)) (by omega) (by omega)
    · obtain rfl := hf
      walk_at "l3"
      refine ⟨0, [.d (.int 3)], [.int 3], .well m2, rfl, rfl, rfl, rfl, rfl, m2, 3, rfl, by omega, by omega, fun y y0 y1 => ?_⟩; refine ⟨.well (m2 + 1), [.d (.int 3)], rfl, ?_⟩
      have y3 := y1 (by decide)
      walk_at "l3"
      refine Or.inr (Or.inr ⟨_, y, rfl, rfl, y0, by omega, by simp, ?_⟩)
      walk_at "l3"
      refine ⟨0, [.d (.lst [.non, v'])], [.lst [.non, v']], .well (m2 + 1), rfl, rfl, rfl, rfl, rfl, (m2 + 1), [.non, v'], rfl, by omega, List.cons_ne_nil _ _, (by first | decide | (simp; done)), fun l hl => ?_⟩; refine ⟨.well ((m2 + 1) + 1), [.d (.lst [.non, v'])], rfl, ?_⟩
      walk_at "l3"
      exact hq _ _ _ (fin y y0 y3 l (by simpa using hl)) (by omega) (by omega)
  rw [if_neg (by simpa using c7)]
  walk_at "l3"
  by_cases c8 : w = 7
  · rw [if_pos (by simpa using c8)]
    walk_at "l3"
    have gp := gd_pair hk g g'
    cases p
    · walk_at "l3"
      exact hq _ _ _ gp (by omega) (by omega)
    · walk_at "l3"
      exact hq _ _ _ gp (by omega) (by omega)
  rw [if_neg (by simpa using c8)]
  walk_at "l3"
  refine ⟨0, [.d (.lst [.str "left", .str "right"])], [.lst [.str "left", .str "right"]], .well m2, rfl, rfl, rfl, rfl, rfl, m2, [.str "left", .str "right"], rfl, by omega, List.cons_ne_nil _ _, (by first | decide | (simp; done)), fun z hz => ?_⟩; refine ⟨.well (m2 + 1), [.d (.lst [.str "left", .str "right"])], rfl, ?_⟩
  walk_at "l3"
  simp only [List.mem_cons, List.mem_nil_iff, or_false] at hz
  rcases hz with rfl | rfl
  · exact hq _ _ _ (gd_lr hk (.inl rfl) g) (by omega) (by omega)
  · exact hq _ _ _ (gd_lr hk (.inr rfl) g) (by omega) (by omega)

abbrev tk3 (a : D) (b : D) : D := .tup [.str "token", a, b]
def odd1 : List D := [.non, .int 5, .bl true, .str "units", .str "token", .tup [], .tup [.str "unit"], .tup [.str "token", .str "a"], tk3 (.str "A") (.int 0), tk3 (.str "no") (.int 0), tk3 .non (.int 0), .tup [.str "token", .str "a", .int 0, .int 0]]
def odd2 : List D := [.lst [.str "token", .str "a", .int 0], .tup [.str "pair", .str "unit"], .tup [.str "pair", .str "unit", .non]]
def odd3 : List D := [.tup [.str "pair", .str "unit", .str "unit", .str "unit"], .tup [.str "left"], .tup [.str "left", .non], .tup [.str "right", .str "unit", .str "unit"], .tup [.str "closure", .int (-1), .tup []], .tup [.str "closure", .bl true, .tup []], .tup [.str "closure", .int 0]]
def odd4 : List D := [.tup [.str "closure", .int 0, .lst []], .tup [.str "closure", .int 0, .tup [.non]], .tup [.str "closure", .str "0", .tup []]]
def odd5 : List D := [.tup [.str "plain"], .tup [.str "plain", .str "and"], .tup [.str "plain", .str "a", .str "b"], .tup [.str "table", .tup [], .int 5], .tup [.str "table", .lst [], .non], .tup [.str "table", .tup [.tup [.str "unit"]], .non]]
def odd6 : List D := [.tup [.str "table", .tup [.tup [.str "unit", .int 5]], .non], .tup [.str "table", .tup [.tup [.tup [.str "plain", .str "a"], .str "unit"]], .non]]
def odd7 : List D := [.tup [.str "table", .tup [.tup [.tup [.str "pair", .str "unit", .tup [.str "closure", .int 0, .tup []]], .str "unit"]], .non], .tup [.str "writer", .str "a", .str "b"], .tup [.str "writer", .str "no", .str "a", .int 0]]
def odd8 : List D := [.tup [.str "writer", .str "a", .tup [.str "or", .str "a", .str "b"], .int 0], .tup [.str "writer", .str "a", .non, .int 0], .tup [.str "writer", .str "a", .str "a", .int 0, .int 0]]
def odd9 : List D := [.dct [] [], .tup [.str "device", .str "a"], .tup [tk3 (.str "a") (.int 0)], .tup [.str "tokens", .str "a", .int 0], .tup [.str "table", .tup [.lst [.str "unit", .str "unit"]], .non], .tup [.str "closure", .int 0, .str "unit"]]
def oddL : List D := odd1 ++ odd2 ++ odd3 ++ odd4 ++ odd5 ++ odd6 ++ odd7 ++ odd8 ++ odd9
structure Odd (o : D) : Prop where
  noi : o.noi = true
  few : nodes o ≤ 60
  low : o.depth ≤ 6
  val : valu o = false
  bar : bare o = false
def okO (o : D) : Bool := o.noi && decide (nodes o ≤ 60) && decide (o.depth ≤ 6) && !valu o && !bare o
theorem odd_all : oddL.all okO = true := by decide +kernel
theorem odd_of {o : D} (h : o ∈ oddL) : Odd o := by
  have := List.all_eq_true.mp odd_all o h
  simp only [okO, Bool.and_eq_true, decide_eq_true_eq, Bool.not_eq_true'] at this
  obtain ⟨⟨⟨⟨h1, h2⟩, h3⟩, h4⟩, h5⟩ := this
  exact ⟨h1, h2, h3, h4, h5⟩
def spOdd : SpD := fun as Qd _ => ∃ n : Nat, as = [.well n] ∧ n < 2 ^ 40 ∧ ∀ o, Odd o → Qd o [.well (n + 1)]
theorem k_odd : Keeps 1 2 spOdd (t__law_odd spOne) := by
  rintro as Qd Xd - ⟨n, rfl, hn, hq⟩
  unfold t__law_odd
  walk_at "l3"
  refine ⟨1, rfl, ?_⟩
  walk_at "l3"
  refine ⟨0, [.d (.lst oddL)], [.lst oddL], .well n, rfl, rfl, rfl, rfl, rfl, n, oddL, rfl, by omega, List.cons_ne_nil _ _, (by first | decide | (simp; done)), fun v hv => ?_⟩; refine ⟨.well (n + 1), [.d (.lst oddL)], rfl, ?_⟩
  walk_at "l3"
  exact hq v (odd_of hv)

structure Bad (o : D) : Prop where
  ok : okDn 20 o
  val : valu o = false
  bar : bare o = false
theorem okDn_of {o : D} (h1 : o.noi = true) (h2 : nodes o ≤ 100000) (h3 : o.depth ≤ 20) : okDn 20 o := ⟨⟨h1, h2, by omega⟩, h3⟩
section
variable {v o : D} {p : Bool}
theorem Odd.bad (h : Odd o) : Bad o := ⟨okDn_of h.noi (by have := h.few; omega) (by have := h.low; omega), h.val, h.bar⟩
/-- one of two parts that are looked at is none -/
theorem bad_of {d : D} {xs : List D} (ok : okDn 20 d) (hv : valuesF bare d = some xs) (h : ∃ x ∈ xs, valu x = false ∧ bare x = false) : Bad d := by
  obtain ⟨x, hx, h1, h2⟩ := h
  have e1 : xs.all valu = false := List.all_eq_false.mpr ⟨x, hx, by simp [h1]⟩
  have e2 : xs.all bare = false := List.all_eq_false.mpr ⟨x, hx, by simp [h2]⟩
  refine ⟨ok, ?_, ?_⟩
  · rw [val_eq ok.1, hv]; exact e1
  · rw [bare_eq ok.1, hv]; dsimp only; rw [e2, Bool.and_false]
theorem bad_pair (g : Gd 3 v p) (h : Odd o) : Bad (.tup [.str "pair", v, o]) ∧ Bad (.tup [.str "pair", o, v]) ∧ Bad (.tup [.str "right", .tup [.str "pair", o, v]]) := by
  have l1 := g.few
  have l2 := h.few
  have l3 := Nn_le 3 (Nat.le_refl 3)
  have d1 := g.low
  have d2 := h.low
  have e4 : (("pair" : Str)).length = 4 := by decide
  have e5 : (("right" : Str)).length = 5 := by decide
  have b1 : Bad (.tup [.str "pair", v, o]) := bad_of (okDn_of (by simp [D.noi, D.nois, g.noi, h.noi]) (by simp only [nodes, nodesL, e4]; omega) (by simp only [D.depth, D.depths]; omega)) (xs := [v, o]) (by simp [valuesF, ofS_inj]) ⟨o, by simp, h.val, h.bar⟩
  have b2 : Bad (.tup [.str "pair", o, v]) := bad_of (okDn_of (by simp [D.noi, D.nois, g.noi, h.noi]) (by simp only [nodes, nodesL, e4]; omega) (by simp only [D.depth, D.depths]; omega)) (xs := [o, v]) (by simp [valuesF, ofS_inj]) ⟨o, by simp, h.val, h.bar⟩
  refine ⟨b1, b2, bad_of (okDn_of (by simp [D.noi, D.nois, g.noi, h.noi]) (by simp only [nodes, nodesL, e4, e5]; omega) (by simp only [D.depth, D.depths]; omega)) (xs := [.tup [.str "pair", o, v]]) (by simp [valuesF, ofS_inj]) ⟨_, by simp, b2.val, b2.bar⟩⟩
theorem bad_left (h : Odd o) : Bad (.tup [.str "left", o]) := by
  have l2 := h.few
  have d2 := h.low
  have e4 : (("left" : Str)).length = 4 := by decide
  exact bad_of (okDn_of (by simp [D.noi, D.nois, h.noi]) (by simp only [nodes, nodesL, e4]; omega) (by simp only [D.depth, D.depths]; omega)) (xs := [o]) (by simp [valuesF, ofS_inj]) ⟨o, by simp, h.val, h.bar⟩
theorem bad_closure (g : Gd 3 v p) (h : Odd o) : Bad (.tup [.str "closure", .int 3, .tup [v, o]]) := by
  have l1 := g.few
  have l2 := h.few
  have l3 := Nn_le 3 (Nat.le_refl 3)
  have d1 := g.low
  have d2 := h.low
  have e4 : (("closure" : Str)).length = 7 := by decide
  exact bad_of (okDn_of (by simp [D.noi, D.nois, g.noi, h.noi]) (by simp only [nodes, nodesL, e4]; omega) (by simp only [D.depth, D.depths]; omega)) (xs := [v, o]) (by simp [valuesF, isClosure, isWithin, ofS_inj, third, its]) ⟨o, by simp, h.val, h.bar⟩
theorem isClosure_table (a b : D) : isClosure (.tup [.str "table", a, b]) = false := by
  unfold isClosure
  split
  · rename_i e; cases e; rfl
  · rfl
theorem bad_table (h : Odd o) : Bad (.tup [.str "table", .tup [.tup [.str "unit", o]], .non]) := by
  have l2 := h.few
  have d2 := h.low
  have e4 : (("table" : Str)).length = 5 := by decide
  have e5 : (("unit" : Str)).length = 4 := by decide
  have hu : bare (.str "unit") = true := by decide +kernel
  have ht : tableF bare (.tup [.str "table", .tup [.tup [.str "unit", o]], .non]) = true := by simp [tableF, rowOk, hu]
  exact bad_of (okDn_of (by simp [D.noi, D.nois, h.noi]) (by simp only [nodes, nodesL, e4, e5]; omega) (by simp only [D.depth, D.depths]; omega)) (xs := [.str "unit", o]) (by simp [valuesF, isClosure_table, ht, ofS_inj, third, second, its, tailD, D.isNon]) ⟨o, by simp, h.val, h.bar⟩
theorem bad_table2 (h : Odd o) (hn : o.isNon = false) : Bad (.tup [.str "table", .tup [], o]) := by
  have l2 := h.few
  have d2 := h.low
  have e4 : (("table" : Str)).length = 5 := by decide
  have ht : tableF bare (.tup [.str "table", .tup [], o]) = true := by simp [tableF]
  exact bad_of (okDn_of (by simp [D.noi, D.nois, h.noi]) (by simp only [nodes, nodesL, e4]; omega) (by simp only [D.depth, D.depths]; omega)) (xs := [o]) (by simp [valuesF, isClosure_table, ht, ofS_inj, third, second, its, tailD, hn]) ⟨o, by simp, h.val, h.bar⟩
end
def spLaw : SpD := fun as Qd _ => ∃ ns : List Int, as = [.d (scrD (ns.map D.int))] ∧ ns.length ≤ 1000000 ∧ Qd (.bl true) as
theorem x_isnot_b {Qr : R → Prop} {a b : Bool} (h : Qr (.d (.bl (!decide (a = b))))) : r3IsNot (.bl a) (.bl b) Qr := .inr ⟨a, b, rfl, rfl, h⟩
theorem x_isnot_same {Qr : R → Prop} {a b : Bool} (e : a = b) (h : Qr (.d (.bl false))) : r3IsNot (.bl a) (.bl b) Qr := .inr ⟨a, b, rfl, rfl, by rw [decide_eq_true e]; exact h⟩
theorem x_ne_same {Qr : R → Prop} {a b : Bool} (e : a = b) (h : Qr (.d (.bl false))) : r3Ne (.str (txtB a)) (.str (txtB b)) Qr := by
  subst e
  refine x_ne (by cases a <;> decide) ?_
  have : D.eqv (.str (txtB a)) (.str (txtB a)) = true := by cases a <;> decide
  rw [this]
  exact h
theorem x_reprB {Qr : R → Prop} {b : Bool} (h : Qr (.d (.str (txtB b)))) : r31ReprB (.bl b) Qr := ⟨b, rfl, h⟩
theorem comp {Xd : XD} {a0 a1 a2 a3 a4 a5 : S} (xs : List D) (Q : R → List S → Prop) (hx : ∀ x ∈ xs, Bad x) (hl : xs.length ≤ 100) (h : Q (.tl []) [a0, a1, a2, a3, a4, a5, .d (.lst xs), .no]) :
    dLc (diSeq (dVar 6)) (dgName 7) (dOr (dB (dBin r3IsNot (dCall 1 (sp_is_value 20) [] (dCons (dVar 7) dNil)) (dC (.bl false)))) (dB (dBin r3IsNot (dCall 1 (sp_is_bare bare 20) [] (dCons (dVar 7) dNil)) (dC (.bl false))))) (dVar 7) [7] Xd [a0, a1, a2, a3, a4, a5, .ol xs, .no] Q := by
  unfold dLc
  walk_at "l3"
  refine ⟨okV1 rfl rfl, lcN_fm 7 (fun x => x) (fun _ => false) _ rfl xs [] (fun x hm Q' q => ?_) (fun x _ z => by cases z) (by simp; omega) ?_⟩
  · have b := hx x hm
    walk_at "l3"
    refine ⟨x, rfl, b.ok, ?_⟩
    walk_at "l3"
    refine x_isnot_same b.val ?_
    walk_at "l3"
    refine ⟨x, rfl, b.ok, ?_⟩
    walk_at "l3"
    refine x_isnot_same b.bar ?_
    walk_at "l3"
    exact q
  · have e1 : (xs.filter fun _ => false).map (fun x => x) = ([] : List D) := by simp
    rw [e1]
    exact h
theorem turn1 {sc : D} {Xd : XD} {De : EndsD} {n : Nat} {s2 s3 s4 s5 s6 : S} (f3 : s3.fixd = false) (f4 : s4.fixd = false) (f5 : s5.fixd = false) (f6 : s6.fixd = false) (hl : n + 60 < 2 ^ 39)
    (hn : ∀ m s3 s4 s5 s6, s3.fixd = false → s4.fixd = false → s5.fixd = false → s6.fixd = false → m ≤ n + 54 → De.nx [.d sc, .well m, s2, s3, s4, s5, s6, .no]) :
    b1_law spWell (spVal 3) (sp_is_value 20) (sp_is_bare bare 20) spOdd Xd De [.d sc, .well n, s2, s3, s4, s5, s6, .no] := by
  have hB : Bn 3 = 53 := rfl
  unfold b1_law
  walk_at "l3"
  refine ⟨1, [.d (.int 3)], [.int 3], .well n, rfl, rfl, rfl, rfl, rfl, n, rfl, by omega, fun v p m g l1 l2 => ?_⟩
  refine ⟨.well m, [.d (.int 3)], rfl, ?_⟩
  have okv : okDn 20 v := ⟨g.ok (by decide), by have := g.low; omega⟩
  walk_at "l3"
  refine ⟨v, rfl, okv, ?_⟩
  walk_at "l3"
  refine x_isnot_same g.val ?_
  walk_at "l3"
  unfold dKw
  walk_at "l3"
  refine ⟨[], rfl, ?_⟩
  walk_at "l3"
  refine ⟨[v], rfl, rfl, rfl, rfl, v, rfl, okv, ?_⟩
  walk_at "l3"
  refine x_isnot_same g.val ?_
  walk_at "l3"
  refine ⟨v, rfl, okv, ?_⟩
  walk_at "l3"
  refine x_reprB ?_
  walk_at "l3"
  refine x_reprB ?_
  walk_at "l3"
  refine x_ne_same g.bar ?_
  walk_at "l3"
  refine ⟨[], rfl, ?_⟩
  walk_at "l3"
  refine ⟨[v], rfl, rfl, rfl, rfl, v, rfl, okv, ?_⟩
  walk_at "l3"
  refine x_reprB ?_
  walk_at "l3"
  refine x_reprB ?_
  walk_at "l3"
  refine x_ne_same g.bar ?_
  walk_at "l3"
  refine ⟨1, [], [], .well m, rfl, rfl, rfl, rfl, rfl, m, rfl, by omega, fun o ho => ?_⟩
  refine ⟨.well (m + 1), [], rfl, ?_⟩
  walk_at "l3"
  obtain ⟨p1, _, p3⟩ := bad_pair g ho
  have bads : ∀ x ∈ [o, .tup [.str "pair", v, o], .tup [.str "left", o], .tup [.str "closure", .int 3, .tup [v, o]], .tup [.str "table", .tup [.tup [.str "unit", o]], .non], .tup [.str "right", .tup [.str "pair", o, v]]], Bad x := by
    intro x hx
    simp only [List.mem_cons, List.mem_nil_iff, or_false] at hx
    rcases hx with rfl | rfl | rfl | rfl | rfl | rfl
    · exact ho.bad
    · exact p1
    · exact bad_left ho
    · exact bad_closure g ho
    · exact bad_table ho
    · exact p3
  cases hnon : o.isNon with
  | true =>
    walk_at "l3"
    refine comp _ _ bads (by simp) ?_
    walk_at "l3"
    refine ne_nil rfl ?_
    walk_at "l3"
    exact hn _ _ _ _ _ rfl rfl rfl rfl (by omega)
  | false =>
    walk_at "l3"
    refine comp _ _ (fun x hx => ?_) (by simp) ?_
    · simp only [List.mem_cons, List.mem_nil_iff, or_false] at hx bads
      rcases hx with h | h | h | h | h | h | h
      · exact bads x (by simp [h])
      · exact bads x (by simp [h])
      · exact bads x (by simp [h])
      · exact bads x (by simp [h])
      · exact bads x (by simp [h])
      · exact bads x (by simp [h])
      · rw [h]
        exact bad_table2 ho hnon
    walk_at "l3"
    refine ne_nil rfl ?_
    walk_at "l3"
    exact hn _ _ _ _ _ rfl rfl rfl rfl (by omega)
theorem turns {sc : D} {Xd : XD} {De : EndsD} (hn : ∀ e, (∃ n s2 s3 s4 s5 s6 s7, e = [.d sc, .well n, s2, s3, s4, s5, s6, s7]) → De.nx e) : ∀ (xs : List D) (n : Nat) (s2 s3 s4 s5 s6 : S), s2.fixd = false → s3.fixd = false → s4.fixd = false → s5.fixd = false → s6.fixd = false → n + xs.length * 60 + 60 < 2 ^ 39 →
    forN (dgName 2) (b1_law spWell (spVal 3) (sp_is_value 20) (sp_is_bare bare 20) spOdd) Xd De xs [.d sc, .well n, s2, s3, s4, s5, s6, .no]
  | [], n, s2, s3, s4, s5, s6, _, _, _, _, _, _ => hn _ ⟨_, _, _, _, _, _, _, rfl⟩
  | x :: r, n, s2, s3, s4, s5, s6, f2, f3, f4, f5, f6, hl => by
    rw [List.length_cons] at hl
    refine ⟨⟨s2, rfl, f2⟩, ?_⟩
    exact turn1 f3 f4 f5 f6 (by omega) fun m s3 s4 s5 s6 g3 g4 g5 g6 hm => turns hn r m _ _ _ _ _ rfl g3 g4 g5 g6 (by omega)
theorem k_law : Keeps 1 8 spLaw (t_law spWell (spVal 3) (sp_is_value 20) (sp_is_bare bare 20) spOdd) := by
  rintro as Qd Xd - ⟨ns, rfl, hl, hq⟩
  unfold t_law
  walk_at "l3"
  unfold dCallW
  walk_at "l3"
  refine ⟨[scrD (ns.map D.int)], rfl, rfl, ns, rfl, hl, ⟨ns.take 60, 0, 0, rfl, List.length_take_le _ _, by decide, by decide, by decide⟩, ?_⟩
  walk_at "l3"
  refine ⟨by decide, by decide, ?_⟩
  refine turns (fun e he => ?_) (rangeD 0 14) 0 .no .no .no .no .no rfl rfl rfl rfl rfl (by simp [rangeD])
  obtain ⟨n, s2, s3, s4, s5, s6, s7, rfl⟩ := he
  walk_at "l3"
  exact hq
mutual
theorem fx_same : ∀ d : D, Law.fxD d = L3.fxD d
  | .lst xs => congrArg D.tup (fx_sames xs)
  | .tup xs => congrArg D.tup (fx_sames xs)
  | .non | .bl _ | .int _ | .str _ | .dct _ _ | .ins _ _ _ => rfl
theorem fx_sames : ∀ xs : List D, Law.fxDs xs = L3.fxDs xs
  | [] => rfl
  | x :: r => by simp only [Law.fxDs, L3.fxDs, fx_same x, fx_sames r]
end
mutual
theorem wt_nodes : ∀ d : D, wt d + 1 ≤ 4 * nodes d
  | .lst xs => by have := wts_nodes xs; simp only [wt, nodes]; omega
  | .tup xs => by have := wts_nodes xs; simp only [wt, nodes]; omega
  | .non | .bl _ | .int _ => by simp [wt, nodes]
  | .str _ => by simp only [wt, nodes]; omega
  | .dct _ _ => by simp only [wt, nodes]; omega
  | .ins _ _ _ => by simp only [wt, nodes]; omega
theorem wts_nodes : ∀ xs : List D, wts xs ≤ 4 * nodesL xs
  | [] => by simp [wts]
  | x :: r => by have := wts_nodes r; have := wt_nodes x; simp only [wts, nodesL]; omega
end
theorem fixed_sp : ∀ (as : List S) (Qd : D → List S → Prop) (Xd : XV → List S → Prop), sp_fixed as Qd Xd → spFix as Qd Xd := by
  rintro as Qd Xd ⟨d, rfl, ok, q⟩
  refine ⟨d, rfl, ⟨ok.noi, ?_⟩, by rw [← fx_same d]; exact q⟩
  have h1 := wt_nodes d
  have h2 := ok.few
  omega
theorem row_same (d : D) : rowB d = isRow d := by cases d <;> rfl
def retE : List Stmt → Expr
  | [.Return (some e) _] => e
  | _ => .Name "" ⟨0, 0, 0, 0⟩
def retP : List Stmt → Pos
  | [.Return (some _) p] => p
  | _ => ⟨0, 0, 0, 0⟩
section
variable {P : Program} {w : World} {K : PySem.W.Frag} {mg : Str → Option Value} {base : Heap}
/-- every def of the module -/
structure All (K : PySem.W.Frag) (mg : Str → Option Value) (fL : Addr) (fdL : FuncData) : Prop where
  is_integer : ∃ f fd, Dd K mg "is_integer" st_is_integer ["value"] f fd
  is_within : ∃ f fd, Dd K mg "is_within" st_is_within ["value", "least", "most"] f fd
  is_row : ∃ f fd, Dd K mg "is_row" st_is_row ["value"] f fd
  is_name : ∃ f fd, Dd K mg "is_name" st_is_name ["value"] f fd
  fixed : ∃ f fd, Dd K mg "fixed" st_fixed ["value"] f fd
  statement_in : ∃ f fd, Dd K mg "statement_in" st_statement_in ["value"] f fd
  parts_in : ∃ f fd, Dd K mg "parts_in" st_parts_in ["statement"] f fd
  is_plain : ∃ f fd, Dd K mg "is_plain" st_is_plain ["statement"] f fd
  is_closure : ∃ f fd, Dd K mg "is_closure" st_is_closure ["value"] f fd
  is_table : ∃ f fd, Dd K mg "is_table" st_is_table ["value"] f fd
  is_told : ∃ f fd, Dd K mg "is_told" st_is_told ["value"] f fd
  is_device : ∃ f fd, Dd K mg "is_device" st_is_device ["value"] f fd
  values_in : ∃ f fd, Dd K mg "values_in" st_values_in ["value"] f fd
  is_bare : ∃ f fd, Dd K mg "is_bare" st_is_bare ["value"] f fd ∧ KBn K fd ["value"] 0 ["value"] (fun us ws => gId us ws) (fun vs zs => gId vs zs)
  is_value : ∃ f fd, Dd K mg "is_value" st_is_value ["value"] f fd ∧ KBn K fd ["value"] 0 ["value"] (fun us ws => gId us ws) (fun vs zs => gId vs zs)
  law_well : ∃ f fd, Dd K mg "_law_well" st__law_well ["script"] f fd
  law_draw : ∃ f fd, Dd K mg "_law_draw" st__law_draw ["well", "many"] f fd
  law_one : ∃ f fd, Dd K mg "_law_one" st__law_one ["well", "some"] f fd
  law_value : ∃ f fd, Dd K mg "_law_value" st__law_value ["well", "deep"] f fd
  law_odd : ∃ f fd, Dd K mg "_law_odd" st__law_odd ["well"] f fd
  law : Dd K mg "law" st_law ["script"] fL fdL
theorem gId_ok : GKok gId := ⟨fun h1 h2 => RepDs.append h1 h2⟩
theorem all_ok {fL : Addr} {fdL : FuncData} (T : Tx K w mg) (A : All K mg fL fdL) : FnOk P w K mg base (L2.CX P w) 100 fL fdL ["script"] (spOf K 1 spLawD) := by
  obtain ⟨f1, fd1, D_is_integer⟩ := A.is_integer
  have C_is_integer : Cal P w K mg base 1 "is_integer" 1 sp_is_integer [] := D_is_integer.cal_of (D_is_integer.ok sc_is_integer (d_is_integer T) k_is_integer)
  obtain ⟨f2, fd2, D_is_within⟩ := A.is_within
  have C_is_within : Cal P w K mg base 2 "is_within" 3 sp_is_within [] := D_is_within.cal_of (D_is_within.ok sc_is_within (d_is_within T C_is_integer (by omega)) k_is_within)
  obtain ⟨f3, fd3, D_is_row⟩ := A.is_row
  have C_is_row : Cal P w K mg base 1 "is_row" 1 sp_is_row [] := D_is_row.cal_of (D_is_row.ok sc_is_row (d_is_row T) k_is_row)
  obtain ⟨f4, fd4, D_is_name⟩ := A.is_name
  have C_is_name : Cal P w K mg base 1 "is_name" 1 sp_is_name [] := D_is_name.cal_of (D_is_name.ok sc_is_name (d_is_name T) k_is_name)
  obtain ⟨f5, fd5, D_fixed⟩ := A.fixed
  have F_fixed : FnOk P w K mg base (L2.CX P w) 2 f5 fd5 ["value"] (spOf K 1 spFix) := fn_fixed D_fixed.fn sc_fixed rfl rfl (fun d Qd Xd h q => ⟨d, rfl, h, by rw [row_same] at q; exact q⟩) (fun d h => noi_isIns h) (fun d y ys h e hy => by
    cases d <;> cases e
    · exact noi_mem (by simpa [D.noi] using h) hy
    · exact noi_mem (by simpa [D.noi] using h) hy) (fun cdv A outer s H E c hr tk ho => d_fixed T C_is_row (Nat.le_refl 1) cdv A outer s H E c hr tk ho)
  have C_fixed : Cal P w K mg base 2 "fixed" 1 sp_fixed [] := D_fixed.cal_of (fn_imp F_fixed fixed_sp)
  obtain ⟨f6, fd6, D_statement_in⟩ := A.statement_in
  have C_statement_in : Cal P w K mg base 3 "statement_in" 1 sp_statement_in [] := D_statement_in.cal_of (D_statement_in.ok sc_statement_in (d_statement_in T C_is_name (by omega) C_fixed (by omega)) k_statement_in)
  obtain ⟨f7, fd7, D_parts_in⟩ := A.parts_in
  have C_parts_in : Cal P w K mg base 1 "parts_in" 1 sp_parts_in [] := D_parts_in.cal_of (D_parts_in.ok sc_parts_in (d_parts_in T) k_parts_in)
  obtain ⟨f8, fd8, D_is_plain⟩ := A.is_plain
  have C_is_plain : Cal P w K mg base 2 "is_plain" 1 sp_is_plain [] := D_is_plain.cal_of (D_is_plain.ok sc_is_plain (d_is_plain T C_parts_in (by omega)) k_is_plain)
  obtain ⟨f9, fd9, D_is_closure⟩ := A.is_closure
  have C_is_closure : Cal P w K mg base 3 "is_closure" 1 sp_is_closure [] := D_is_closure.cal_of (D_is_closure.ok sc_is_closure (d_is_closure T C_is_within (by omega)) k_is_closure)
  obtain ⟨f10, fd10, D_is_told⟩ := A.is_told
  have C_is_told : Cal P w K mg base 4 "is_told" 1 sp_is_told [] := D_is_told.cal_of (D_is_told.ok sc_is_told (d_is_told T C_statement_in (by omega)) k_is_told)
  obtain ⟨f11, fd11, D_is_device⟩ := A.is_device
  have C_is_device : Cal P w K mg base 5 "is_device" 1 sp_is_device [] := D_is_device.cal_of (D_is_device.ok sc_is_device (d_is_device T C_is_told (by omega) C_is_plain (by omega)) k_is_device)
  obtain ⟨f12, fd12, D_is_table⟩ := A.is_table
  obtain ⟨f13, fd13, D_values_in⟩ := A.values_in
  obtain ⟨f14, fd14, D_is_bare, B_is_bare⟩ := A.is_bare
  obtain ⟨f15, fd15, D_is_value, B_is_value⟩ := A.is_value
  have fV : ∀ n : Nat, FnOk P w K mg base (L2.CX P w) (10 + 3 * n) f12 fd12 ["value"] (spOf K 1 (sp_is_table bare n)) → FnOk P w K mg base (L2.CX P w) (11 + 3 * n) f13 fd13 ["value"] (spOf K 1 (sp_values_in bare n)) := fun n h =>
    (D_values_in.ok (k := 10 + 3 * n) sc_values_in (d_values_in T C_is_name (by omega) C_is_closure (by omega) (D_is_table.cal_of h) (by omega) C_is_device (by omega)) (k_values_in bare n)).mono (by omega)
  have fB : ∀ n : Nat, FnOk P w K mg base (L2.CX P w) (11 + 3 * n) f13 fd13 ["value"] (spOf K 1 (sp_values_in bare n)) → FnOk P w K mg base (L2.CX P w) (12 + 3 * n) f14 fd14 ["value"] (spOf K 1 (sp_is_bare bare n)) := fun n h =>
    (D_is_bare.ok (k := 11 + 3 * n) sc_is_bare (d_is_bare T (D_values_in.cal_of h) (by omega)) (k_is_bare n)).mono (by omega)
  have fT : ∀ n : Nat, FnOk P w K mg base (L2.CX P w) (10 + 3 * n) f12 fd12 ["value"] (spOf K 1 (sp_is_table bare n)) := fun n => by
    induction n with
    | zero =>
      refine fn_none (ps := ["value"]) fun as Qd Xd _ ⟨d, _, ⟨⟨_, k, r, e⟩, hd⟩, _⟩ => ?_
      subst e
      simp only [D.depth, D.depths] at hd
      omega
    | succ n ih => exact (D_is_table.ok (k := 12 + 3 * n) sc_is_table (d_is_table T (D_is_bare.cal_of (fB n (fV n ih))) (by omega)) (k_is_table bare n)).mono (by omega)
  have FV := fV 20 (fT 20)
  have FB : FnOk P w K mg base (L2.CX P w) 72 f14 fd14 ["value"] (spOf K 1 (sp_is_bare bare 20)) := fB 20 FV
  have C_values_in : Cal P w K mg base 71 "values_in" 1 (sp_values_in bare 20) [] := D_values_in.cal_of FV
  have FI : FnOk P w K mg base (L2.CX P w) 72 f15 fd15 ["value"] (spOf K 1 (sp_is_value 20)) := D_is_value.ok sc_is_value (d_is_value T C_values_in (by omega)) (k_is_value 20)
  have C_is_bare : Cal P w K mg base 72 "is_bare" 1 (sp_is_bare bare 20) [] := D_is_bare.cal_of FB
  have C_is_value : Cal P w K mg base 72 "is_value" 1 (sp_is_value 20) [] := D_is_value.cal_of FI
  have K_is_bare : CalK P w K mg base 72 "is_bare" 1 0 ["value"] gId (sp_is_bare bare 20) := D_is_bare.calK_of FB B_is_bare gId_ok
  have K_is_value : CalK P w K mg base 72 "is_value" 1 0 ["value"] gId (sp_is_value 20) := D_is_value.calK_of FI B_is_value gId_ok
  obtain ⟨f16, fd16, D_well⟩ := A.law_well
  have C_well : CalL P w K mg base 1 "_law_well" 1 spWell := D_well.calL_of (fn_retL D_well.fn sc__law_well (ex := retE (defBody st__law_well)) (pos := retP (defBody st__law_well)) rfl (fun cdv A outer s H E c hr tk ho => by
    obtain ⟨ex, pos, h1, h2⟩ := d__law_well T cdv A outer s H E c hr tk ho
    have e : retE (defBody st__law_well) = ex := by rw [h1]; rfl
    rw [e]
    exact h2) k_well)
  obtain ⟨f17, fd17, D_draw⟩ := A.law_draw
  have F_draw : FnOk P w K mg base (L2.CX P w) 1 f17 fd17 ["well", "many"] (spOf K 2 spDraw) := FnOk.imp (D_draw.ok sc__law_draw (d__law_draw T) k_draw) fun _ _ _ _ h => draw_sp h
  have C_draw : Cal P w K mg base 1 "_law_draw" 2 spDraw [] := D_draw.cal_of F_draw
  obtain ⟨f18, fd18, D_one⟩ := A.law_one
  have C_one : Cal P w K mg base 2 "_law_one" 2 spOne [] := D_one.cal_of (D_one.ok sc__law_one (d__law_one T C_draw (by omega)) k_one)
  obtain ⟨f19, fd19, D_value⟩ := A.law_value
  have F0 : FnOk P w K mg base (L2.CX P w) 2 f19 fd19 ["well", "deep"] (spOf K 2 fun _ _ _ => False) := fn_none (ps := ["well", "deep"]) fun _ _ _ _ h => h
  have fVal : ∀ n : Nat, n ≤ 3 → FnOk P w K mg base (L2.CX P w) (3 + n) f19 fd19 ["well", "deep"] (spOf K 2 (spVal n)) := fun n => by
    induction n with
    | zero => exact fun hn => D_value.ok (k := 2) sc__law_value (d__law_value T C_draw (by omega) C_one (by omega) (D_value.cal_of F0) (by omega)) (k_value 0 hn _ fun z => absurd z (by decide))
    | succ n ih => exact fun hn => (D_value.ok (k := 3 + n) sc__law_value (d__law_value T C_draw (by omega) C_one (by omega) (D_value.cal_of (ih (by omega))) (by omega)) (k_value (n + 1) hn _ fun _ => rfl)).mono (by omega)
  have C_value : Cal P w K mg base 6 "_law_value" 2 (spVal 3) [] := D_value.cal_of (fVal 3 (by decide))
  obtain ⟨f20, fd20, D_odd⟩ := A.law_odd
  have C_odd : Cal P w K mg base 3 "_law_odd" 1 spOdd [] := D_odd.cal_of (D_odd.ok sc__law_odd (d__law_odd T C_one (by omega)) k_odd)
  refine (fn_imp (A.law.ok (k := 72) sc_law (d_law T C_well (by omega) C_value (by omega) C_is_value (by omega) K_is_value (by omega) C_is_bare (by omega) K_is_bare (by omega) C_odd (by omega)) k_law) ?_).mono (by omega)
  rintro as Qd Xd ⟨ns, rfl, hl, q⟩
  exact ⟨ns, rfl, by omega, q⟩
end
theorem all_mk {P : Program} {w : World} {K : PySem.W.Frag} {h : Heap} {mg : Str → Option Value} {fa : Addr} (X : K.In h) (G : h.Ns mainGlobals mg) (hfa : mg "law" = some (.ref fa))
    {f0 : Addr} {oc0 : Value} {od0 an0 : Option Addr} {sl0 : Array (Option Value)} {kV0 dc0 pm0 cd0 ct0 : Value}
    {f1 : Addr} {oc1 : Value} {od1 an1 : Option Addr} {sl1 : Array (Option Value)} {kV1 dc1 pm1 cd1 ct1 : Value}
    {f2 : Addr} {oc2 : Value} {od2 an2 : Option Addr} {sl2 : Array (Option Value)} {kV2 dc2 pm2 cd2 ct2 : Value}
    {f3 : Addr} {oc3 : Value} {od3 an3 : Option Addr} {sl3 : Array (Option Value)} {kV3 dc3 pm3 cd3 ct3 : Value}
    {f4 : Addr} {oc4 : Value} {od4 an4 : Option Addr} {sl4 : Array (Option Value)} {kV4 dc4 pm4 cd4 ct4 : Value}
    {f5 : Addr} {oc5 : Value} {od5 an5 : Option Addr} {sl5 : Array (Option Value)} {kV5 dc5 pm5 cd5 ct5 : Value}
    {f6 : Addr} {oc6 : Value} {od6 an6 : Option Addr} {sl6 : Array (Option Value)} {kV6 dc6 pm6 cd6 ct6 : Value}
    {f7 : Addr} {oc7 : Value} {od7 an7 : Option Addr} {sl7 : Array (Option Value)} {kV7 dc7 pm7 cd7 ct7 : Value}
    {f8 : Addr} {oc8 : Value} {od8 an8 : Option Addr} {sl8 : Array (Option Value)} {kV8 dc8 pm8 cd8 ct8 : Value}
    {f9 : Addr} {oc9 : Value} {od9 an9 : Option Addr} {sl9 : Array (Option Value)} {kV9 dc9 pm9 cd9 ct9 : Value}
    {f10 : Addr} {oc10 : Value} {od10 an10 : Option Addr} {sl10 : Array (Option Value)} {kV10 dc10 pm10 cd10 ct10 : Value}
    {f11 : Addr} {oc11 : Value} {od11 an11 : Option Addr} {sl11 : Array (Option Value)} {kV11 dc11 pm11 cd11 ct11 : Value}
    {f12 : Addr} {oc12 : Value} {od12 an12 : Option Addr} {sl12 : Array (Option Value)} {kV12 dc12 pm12 cd12 ct12 : Value}
    {f13 : Addr} {oc13 : Value} {od13 an13 : Option Addr} {sl13 : Array (Option Value)} {kV13 dc13 pm13 cd13 ct13 : Value}
    {f14 : Addr} {oc14 : Value} {od14 an14 : Option Addr} {sl14 : Array (Option Value)} {kV14 dc14 pm14 cd14 ct14 : Value}
    {f15 : Addr} {oc15 : Value} {od15 an15 : Option Addr} {sl15 : Array (Option Value)} {kV15 dc15 pm15 cd15 ct15 : Value}
    {f16 : Addr} {oc16 : Value} {od16 an16 : Option Addr} {sl16 : Array (Option Value)} {kV16 dc16 pm16 cd16 ct16 : Value}
    {f17 : Addr} {oc17 : Value} {od17 an17 : Option Addr} {sl17 : Array (Option Value)} {kV17 dc17 pm17 cd17 ct17 : Value}
    {f18 : Addr} {oc18 : Value} {od18 an18 : Option Addr} {sl18 : Array (Option Value)} {kV18 dc18 pm18 cd18 ct18 : Value}
    {f19 : Addr} {oc19 : Value} {od19 an19 : Option Addr} {sl19 : Array (Option Value)} {kV19 dc19 pm19 cd19 ct19 : Value}
    {f20 : Addr} {oc20 : Value} {od20 an20 : Option Addr} {sl20 : Array (Option Value)} {kV20 dc20 pm20 cd20 ct20 : Value}
    {p_JOINS : Addr} {it_JOINS : Array Value} {n_JOINS : Nat} {sl_JOINS : Array (Option Value)} {dd_JOINS : Option Addr}
    {t_LETTERS : Tok}
    {t_MOST_PARTS : Tok}
    {t_MOST_SIGNS : Tok}
    {t_NO : Tok}
    {t_OR : Tok}
    {p_WORDS : Addr} {it_WORDS : Array Value} {n_WORDS : Nat} {sl_WORDS : Array (Option Value)} {dd_WORDS : Option Addr}
    {t_YES : Tok}
    {p_INNER : Addr} {es_INNER : Array DictEntry} {n_INNER : Nat}
    (a0 : PySem.W.nsIn K mainGlobals "is_integer" = some (some (.ref f0))) (l0 : K.lookup f0 = some ⟨oc0, od0, .func (PySem.W.fnOf "is_integer" "is_integer" (defArgs st_is_integer) (defBody st_is_integer) (defScope st_is_integer) .none kV0 dc0 pm0 an0 cd0 ct0), sl0⟩) (e0 : PySem.W.codeIn K cd0 "is_integer" = true) (p0 : PySem.W.keepIn K (.ref f0) = true)
    (a1 : PySem.W.nsIn K mainGlobals "is_within" = some (some (.ref f1))) (l1 : K.lookup f1 = some ⟨oc1, od1, .func (PySem.W.fnOf "is_within" "is_within" (defArgs st_is_within) (defBody st_is_within) (defScope st_is_within) .none kV1 dc1 pm1 an1 cd1 ct1), sl1⟩) (e1 : PySem.W.codeIn K cd1 "is_within" = true) (p1 : PySem.W.keepIn K (.ref f1) = true)
    (a2 : PySem.W.nsIn K mainGlobals "is_row" = some (some (.ref f2))) (l2 : K.lookup f2 = some ⟨oc2, od2, .func (PySem.W.fnOf "is_row" "is_row" (defArgs st_is_row) (defBody st_is_row) (defScope st_is_row) .none kV2 dc2 pm2 an2 cd2 ct2), sl2⟩) (e2 : PySem.W.codeIn K cd2 "is_row" = true) (p2 : PySem.W.keepIn K (.ref f2) = true)
    (a3 : PySem.W.nsIn K mainGlobals "is_name" = some (some (.ref f3))) (l3 : K.lookup f3 = some ⟨oc3, od3, .func (PySem.W.fnOf "is_name" "is_name" (defArgs st_is_name) (defBody st_is_name) (defScope st_is_name) .none kV3 dc3 pm3 an3 cd3 ct3), sl3⟩) (e3 : PySem.W.codeIn K cd3 "is_name" = true) (p3 : PySem.W.keepIn K (.ref f3) = true)
    (a4 : PySem.W.nsIn K mainGlobals "fixed" = some (some (.ref f4))) (l4 : K.lookup f4 = some ⟨oc4, od4, .func (PySem.W.fnOf "fixed" "fixed" (defArgs st_fixed) (defBody st_fixed) (defScope st_fixed) .none kV4 dc4 pm4 an4 cd4 ct4), sl4⟩) (e4 : PySem.W.codeIn K cd4 "fixed" = true) (p4 : PySem.W.keepIn K (.ref f4) = true)
    (a5 : PySem.W.nsIn K mainGlobals "statement_in" = some (some (.ref f5))) (l5 : K.lookup f5 = some ⟨oc5, od5, .func (PySem.W.fnOf "statement_in" "statement_in" (defArgs st_statement_in) (defBody st_statement_in) (defScope st_statement_in) .none kV5 dc5 pm5 an5 cd5 ct5), sl5⟩) (e5 : PySem.W.codeIn K cd5 "statement_in" = true) (p5 : PySem.W.keepIn K (.ref f5) = true)
    (a6 : PySem.W.nsIn K mainGlobals "parts_in" = some (some (.ref f6))) (l6 : K.lookup f6 = some ⟨oc6, od6, .func (PySem.W.fnOf "parts_in" "parts_in" (defArgs st_parts_in) (defBody st_parts_in) (defScope st_parts_in) .none kV6 dc6 pm6 an6 cd6 ct6), sl6⟩) (e6 : PySem.W.codeIn K cd6 "parts_in" = true) (p6 : PySem.W.keepIn K (.ref f6) = true)
    (a7 : PySem.W.nsIn K mainGlobals "is_plain" = some (some (.ref f7))) (l7 : K.lookup f7 = some ⟨oc7, od7, .func (PySem.W.fnOf "is_plain" "is_plain" (defArgs st_is_plain) (defBody st_is_plain) (defScope st_is_plain) .none kV7 dc7 pm7 an7 cd7 ct7), sl7⟩) (e7 : PySem.W.codeIn K cd7 "is_plain" = true) (p7 : PySem.W.keepIn K (.ref f7) = true)
    (a8 : PySem.W.nsIn K mainGlobals "is_closure" = some (some (.ref f8))) (l8 : K.lookup f8 = some ⟨oc8, od8, .func (PySem.W.fnOf "is_closure" "is_closure" (defArgs st_is_closure) (defBody st_is_closure) (defScope st_is_closure) .none kV8 dc8 pm8 an8 cd8 ct8), sl8⟩) (e8 : PySem.W.codeIn K cd8 "is_closure" = true) (p8 : PySem.W.keepIn K (.ref f8) = true)
    (a9 : PySem.W.nsIn K mainGlobals "is_table" = some (some (.ref f9))) (l9 : K.lookup f9 = some ⟨oc9, od9, .func (PySem.W.fnOf "is_table" "is_table" (defArgs st_is_table) (defBody st_is_table) (defScope st_is_table) .none kV9 dc9 pm9 an9 cd9 ct9), sl9⟩) (e9 : PySem.W.codeIn K cd9 "is_table" = true) (p9 : PySem.W.keepIn K (.ref f9) = true)
    (a10 : PySem.W.nsIn K mainGlobals "is_told" = some (some (.ref f10))) (l10 : K.lookup f10 = some ⟨oc10, od10, .func (PySem.W.fnOf "is_told" "is_told" (defArgs st_is_told) (defBody st_is_told) (defScope st_is_told) .none kV10 dc10 pm10 an10 cd10 ct10), sl10⟩) (e10 : PySem.W.codeIn K cd10 "is_told" = true) (p10 : PySem.W.keepIn K (.ref f10) = true)
    (a11 : PySem.W.nsIn K mainGlobals "is_device" = some (some (.ref f11))) (l11 : K.lookup f11 = some ⟨oc11, od11, .func (PySem.W.fnOf "is_device" "is_device" (defArgs st_is_device) (defBody st_is_device) (defScope st_is_device) .none kV11 dc11 pm11 an11 cd11 ct11), sl11⟩) (e11 : PySem.W.codeIn K cd11 "is_device" = true) (p11 : PySem.W.keepIn K (.ref f11) = true)
    (a12 : PySem.W.nsIn K mainGlobals "values_in" = some (some (.ref f12))) (l12 : K.lookup f12 = some ⟨oc12, od12, .func (PySem.W.fnOf "values_in" "values_in" (defArgs st_values_in) (defBody st_values_in) (defScope st_values_in) .none kV12 dc12 pm12 an12 cd12 ct12), sl12⟩) (e12 : PySem.W.codeIn K cd12 "values_in" = true) (p12 : PySem.W.keepIn K (.ref f12) = true)
    (a13 : PySem.W.nsIn K mainGlobals "is_bare" = some (some (.ref f13))) (l13 : K.lookup f13 = some ⟨oc13, od13, .func (PySem.W.fnOf "is_bare" "is_bare" (defArgs st_is_bare) (defBody st_is_bare) (defScope st_is_bare) .none kV13 dc13 pm13 an13 cd13 ct13), sl13⟩) (e13 : PySem.W.codeIn K cd13 "is_bare" = true) (p13 : PySem.W.keepIn K (.ref f13) = true)
    (a14 : PySem.W.nsIn K mainGlobals "is_value" = some (some (.ref f14))) (l14 : K.lookup f14 = some ⟨oc14, od14, .func (PySem.W.fnOf "is_value" "is_value" (defArgs st_is_value) (defBody st_is_value) (defScope st_is_value) .none kV14 dc14 pm14 an14 cd14 ct14), sl14⟩) (e14 : PySem.W.codeIn K cd14 "is_value" = true) (p14 : PySem.W.keepIn K (.ref f14) = true)
    (a15 : PySem.W.nsIn K mainGlobals "_law_well" = some (some (.ref f15))) (l15 : K.lookup f15 = some ⟨oc15, od15, .func (PySem.W.fnOf "_law_well" "_law_well" (defArgs st__law_well) (defBody st__law_well) (defScope st__law_well) .none kV15 dc15 pm15 an15 cd15 ct15), sl15⟩) (e15 : PySem.W.codeIn K cd15 "_law_well" = true) (p15 : PySem.W.keepIn K (.ref f15) = true)
    (a16 : PySem.W.nsIn K mainGlobals "_law_draw" = some (some (.ref f16))) (l16 : K.lookup f16 = some ⟨oc16, od16, .func (PySem.W.fnOf "_law_draw" "_law_draw" (defArgs st__law_draw) (defBody st__law_draw) (defScope st__law_draw) .none kV16 dc16 pm16 an16 cd16 ct16), sl16⟩) (e16 : PySem.W.codeIn K cd16 "_law_draw" = true) (p16 : PySem.W.keepIn K (.ref f16) = true)
    (a17 : PySem.W.nsIn K mainGlobals "_law_one" = some (some (.ref f17))) (l17 : K.lookup f17 = some ⟨oc17, od17, .func (PySem.W.fnOf "_law_one" "_law_one" (defArgs st__law_one) (defBody st__law_one) (defScope st__law_one) .none kV17 dc17 pm17 an17 cd17 ct17), sl17⟩) (e17 : PySem.W.codeIn K cd17 "_law_one" = true) (p17 : PySem.W.keepIn K (.ref f17) = true)
    (a18 : PySem.W.nsIn K mainGlobals "_law_value" = some (some (.ref f18))) (l18 : K.lookup f18 = some ⟨oc18, od18, .func (PySem.W.fnOf "_law_value" "_law_value" (defArgs st__law_value) (defBody st__law_value) (defScope st__law_value) .none kV18 dc18 pm18 an18 cd18 ct18), sl18⟩) (e18 : PySem.W.codeIn K cd18 "_law_value" = true) (p18 : PySem.W.keepIn K (.ref f18) = true)
    (a19 : PySem.W.nsIn K mainGlobals "_law_odd" = some (some (.ref f19))) (l19 : K.lookup f19 = some ⟨oc19, od19, .func (PySem.W.fnOf "_law_odd" "_law_odd" (defArgs st__law_odd) (defBody st__law_odd) (defScope st__law_odd) .none kV19 dc19 pm19 an19 cd19 ct19), sl19⟩) (e19 : PySem.W.codeIn K cd19 "_law_odd" = true) (p19 : PySem.W.keepIn K (.ref f19) = true)
    (a20 : PySem.W.nsIn K mainGlobals "law" = some (some (.ref f20))) (l20 : K.lookup f20 = some ⟨oc20, od20, .func (PySem.W.fnOf "law" "law" (defArgs st_law) (defBody st_law) (defScope st_law) .none kV20 dc20 pm20 an20 cd20 ct20), sl20⟩) (e20 : PySem.W.codeIn K cd20 "law" = true) (p20 : PySem.W.keepIn K (.ref f20) = true)
    (z_abs : PySem.W.nsIn K mainGlobals "abs" = some none)
    (z_all : PySem.W.nsIn K mainGlobals "all" = some none)
    (z_any : PySem.W.nsIn K mainGlobals "any" = some none)
    (z_bool : PySem.W.nsIn K mainGlobals "bool" = some none)
    (z_int : PySem.W.nsIn K mainGlobals "int" = some none)
    (z_isinstance : PySem.W.nsIn K mainGlobals "isinstance" = some none)
    (z_len : PySem.W.nsIn K mainGlobals "len" = some none)
    (z_list : PySem.W.nsIn K mainGlobals "list" = some none)
    (z_range : PySem.W.nsIn K mainGlobals "range" = some none)
    (z_repr : PySem.W.nsIn K mainGlobals "repr" = some none)
    (z_str : PySem.W.nsIn K mainGlobals "str" = some none)
    (z_tuple : PySem.W.nsIn K mainGlobals "tuple" = some none)
    (g_JOINS : PySem.W.nsIn K mainGlobals "JOINS" = some (some (.ref p_JOINS))) (l_JOINS : K.lookup p_JOINS = some ⟨.type "tuple", dd_JOINS, .seq it_JOINS n_JOINS, sl_JOINS⟩) (v_JOINS : L2.Vals (List.map L2.V.str ["and", "or", "gives"]) it_JOINS.toList)
    (g_LETTERS : PySem.W.nsIn K mainGlobals "LETTERS" = some (some (.str "abcdefghijklmnopqrstuvwxyz" t_LETTERS)))
    (g_MOST_PARTS : PySem.W.nsIn K mainGlobals "MOST_PARTS" = some (some (.int (24) t_MOST_PARTS)))
    (g_MOST_SIGNS : PySem.W.nsIn K mainGlobals "MOST_SIGNS" = some (some (.int (8) t_MOST_SIGNS)))
    (g_NO : PySem.W.nsIn K mainGlobals "NO" = some (some (.str "no" t_NO)))
    (g_OR : PySem.W.nsIn K mainGlobals "OR" = some (some (.str "or" t_OR)))
    (g_WORDS : PySem.W.nsIn K mainGlobals "WORDS" = some (some (.ref p_WORDS))) (l_WORDS : K.lookup p_WORDS = some ⟨.type "tuple", dd_WORDS, .seq it_WORDS n_WORDS, sl_WORDS⟩) (v_WORDS : L2.Vals (List.map L2.V.str ["and", "or", "gives", "yes", "no", "fun", "call", "pair", "first", "second", "left", "right", "case", "unit", "never", "hole"]) it_WORDS.toList)
    (g_YES : PySem.W.nsIn K mainGlobals "YES" = some (some (.str "yes" t_YES)))
    (g_INNER : PySem.W.nsIn K mainGlobals "INNER" = some (some (.ref p_INNER))) (l_INNER : K.lookup p_INNER = some ⟨.type "dict", none, .dict es_INNER n_INNER, #[]⟩) (y_INNER : PySem.W.KeysLit w.params es_INNER.toList) (w_INNER : (p_INNER == sysModules) = false) (v_INNER : EntsD K es_INNER.toList k_INNER)
    : ∃ fd : FuncData, (∀ (s : Shared) (u : Value), BindsTo s fd ⟨[u], []⟩ [("script", u)]) ∧ ∀ base : Heap, K.In base → base.Ns mainGlobals mg → FnOk P w K mg base (L2.CX P w) 100 fa fd ["script"] (spOf K 1 spLawD) := by
  have e := hfa.symm.trans (PySem.W.mg_of X G a20)
  cases e
  have T : Tx K w mg := ⟨PySem.W.mg_none_of X G z_abs,
    PySem.W.mg_none_of X G z_all,
    PySem.W.mg_none_of X G z_any,
    PySem.W.mg_none_of X G z_bool,
    PySem.W.mg_none_of X G z_int,
    PySem.W.mg_none_of X G z_isinstance,
    PySem.W.mg_none_of X G z_len,
    PySem.W.mg_none_of X G z_list,
    PySem.W.mg_none_of X G z_range,
    PySem.W.mg_none_of X G z_repr,
    PySem.W.mg_none_of X G z_str,
    PySem.W.mg_none_of X G z_tuple,
    glo_strs (zs := ["and", "or", "gives"]) (PySem.W.mg_of X G g_JOINS) l_JOINS v_JOINS (by decide),
    glo_str (PySem.W.mg_of X G g_LETTERS),
    glo_int (PySem.W.mg_of X G g_MOST_PARTS),
    glo_int (PySem.W.mg_of X G g_MOST_SIGNS),
    glo_str (PySem.W.mg_of X G g_NO),
    glo_str (PySem.W.mg_of X G g_OR),
    glo_strs (zs := ["and", "or", "gives", "yes", "no", "fun", "call", "pair", "first", "second", "left", "right", "case", "unit", "never", "hole"]) (PySem.W.mg_of X G g_WORDS) l_WORDS v_WORDS (by decide),
    glo_str (PySem.W.mg_of X G g_YES),
    ⟨⟨p_INNER, PySem.W.mg_of X G g_INNER, ⟨⟨es_INNER, n_INNER, l_INNER, y_INNER, v_INNER⟩, w_INNER, by decide⟩⟩⟩⟩
  refine ⟨PySem.W.fnOf "law" "law" (defArgs st_law) (defBody st_law) (defScope st_law) .none kV20 dc20 pm20 an20 cd20 ct20, fun s v => .of_eq rfl, fun base _ _ => all_ok T ⟨⟨_, _, dd_mk (st := st_is_integer) (ps := ["value"]) X G a0 l0 e0 p0 fun us hl => match us, hl with | [_], _ => rfl⟩,
    ⟨_, _, dd_mk (st := st_is_within) (ps := ["value", "least", "most"]) X G a1 l1 e1 p1 fun us hl => match us, hl with | [_, _, _], _ => rfl⟩,
    ⟨_, _, dd_mk (st := st_is_row) (ps := ["value"]) X G a2 l2 e2 p2 fun us hl => match us, hl with | [_], _ => rfl⟩,
    ⟨_, _, dd_mk (st := st_is_name) (ps := ["value"]) X G a3 l3 e3 p3 fun us hl => match us, hl with | [_], _ => rfl⟩,
    ⟨_, _, dd_mk (st := st_fixed) (ps := ["value"]) X G a4 l4 e4 p4 fun us hl => match us, hl with | [_], _ => rfl⟩,
    ⟨_, _, dd_mk (st := st_statement_in) (ps := ["value"]) X G a5 l5 e5 p5 fun us hl => match us, hl with | [_], _ => rfl⟩,
    ⟨_, _, dd_mk (st := st_parts_in) (ps := ["statement"]) X G a6 l6 e6 p6 fun us hl => match us, hl with | [_], _ => rfl⟩,
    ⟨_, _, dd_mk (st := st_is_plain) (ps := ["statement"]) X G a7 l7 e7 p7 fun us hl => match us, hl with | [_], _ => rfl⟩,
    ⟨_, _, dd_mk (st := st_is_closure) (ps := ["value"]) X G a8 l8 e8 p8 fun us hl => match us, hl with | [_], _ => rfl⟩,
    ⟨_, _, dd_mk (st := st_is_table) (ps := ["value"]) X G a9 l9 e9 p9 fun us hl => match us, hl with | [_], _ => rfl⟩,
    ⟨_, _, dd_mk (st := st_is_told) (ps := ["value"]) X G a10 l10 e10 p10 fun us hl => match us, hl with | [_], _ => rfl⟩,
    ⟨_, _, dd_mk (st := st_is_device) (ps := ["value"]) X G a11 l11 e11 p11 fun us hl => match us, hl with | [_], _ => rfl⟩,
    ⟨_, _, dd_mk (st := st_values_in) (ps := ["value"]) X G a12 l12 e12 p12 fun us hl => match us, hl with | [_], _ => rfl⟩,
    ⟨_, _, dd_mk (st := st_is_bare) (ps := ["value"]) X G a13 l13 e13 p13 fun us hl => match us, hl with | [_], _ => rfl, ⟨fun s us ws _ h1 h2 => match us, ws, h1, h2 with | [], [_], _, _ => .of_eq rfl, fun h1 h2 => h1.append h2⟩⟩,
    ⟨_, _, dd_mk (st := st_is_value) (ps := ["value"]) X G a14 l14 e14 p14 fun us hl => match us, hl with | [_], _ => rfl, ⟨fun s us ws _ h1 h2 => match us, ws, h1, h2 with | [], [_], _, _ => .of_eq rfl, fun h1 h2 => h1.append h2⟩⟩,
    ⟨_, _, dd_mk (st := st__law_well) (ps := ["script"]) X G a15 l15 e15 p15 fun us hl => match us, hl with | [_], _ => rfl⟩,
    ⟨_, _, dd_mk (st := st__law_draw) (ps := ["well", "many"]) X G a16 l16 e16 p16 fun us hl => match us, hl with | [_, _], _ => rfl⟩,
    ⟨_, _, dd_mk (st := st__law_one) (ps := ["well", "some"]) X G a17 l17 e17 p17 fun us hl => match us, hl with | [_, _], _ => rfl⟩,
    ⟨_, _, dd_mk (st := st__law_value) (ps := ["well", "deep"]) X G a18 l18 e18 p18 fun us hl => match us, hl with | [_, _], _ => rfl⟩,
    ⟨_, _, dd_mk (st := st__law_odd) (ps := ["well"]) X G a19 l19 e19 p19 fun us hl => match us, hl with | [_], _ => rfl⟩,
    dd_mk (st := st_law) (ps := ["script"]) X G a20 l20 e20 p20 fun us hl => match us, hl with | [_], _ => rfl⟩⟩
end Law
open PySem PySem.W PyProof.Rows in
set_option maxRecDepth 100000 in
set_option maxHeartbeats 0 in
theorem PySem.Challenge.cw_provenruns_k26_values_and_bare_ones_holds : PySem.Challenge.rw_provenruns_k26_values_and_bare_ones.Holds := by
  w_on; o_law; k_head; (case hw => w_witness2)
  k_fill
  refine L3.walk (l := PySem.Challenge.rw_provenruns_k26_values_and_bare_ones) (k := 100) ?hn ?hdf ⟨rfl, by decide, by decide⟩ (fun w h Y => PySem.W.kIn_of Y) ?F
  case hn => exact rfl
  case hdf => exact rfl
  case F =>
    intro w mg fa h KX G hmg
    refine' Law.all_mk (w := w) KX G hmg ?a0 ?l0 ?e0 ?p0 ?a1 ?l1 ?e1 ?p1 ?a2 ?l2 ?e2 ?p2 ?a3 ?l3 ?e3 ?p3 ?a4 ?l4 ?e4 ?p4 ?a5 ?l5 ?e5 ?p5 ?a6 ?l6 ?e6 ?p6 ?a7 ?l7 ?e7 ?p7 ?a8 ?l8 ?e8 ?p8 ?a9 ?l9 ?e9 ?p9 ?a10 ?l10 ?e10 ?p10 ?a11 ?l11 ?e11 ?p11 ?a12 ?l12 ?e12 ?p12 ?a13 ?l13 ?e13 ?p13 ?a14 ?l14 ?e14 ?p14 ?a15 ?l15 ?e15 ?p15 ?a16 ?l16 ?e16 ?p16 ?a17 ?l17 ?e17 ?p17 ?a18 ?l18 ?e18 ?p18 ?a19 ?l19 ?e19 ?p19 ?a20 ?l20 ?e20 ?p20 ?z_abs ?z_all ?z_any ?z_bool ?z_int ?z_isinstance ?z_len ?z_list ?z_range ?z_repr ?z_str ?z_tuple ?g_JOINS ?l_JOINS ?v_JOINS ?g_LETTERS ?g_MOST_PARTS ?g_MOST_SIGNS ?g_NO ?g_OR ?g_WORDS ?l_WORDS ?v_WORDS ?g_YES ?g_INNER ?l_INNER ?y_INNER ?w_INNER ?v_INNER
    (case a0 => k_is)
    (case l0 => k_is)
    (case e0 => k_is)
    (case p0 => k_is)
    (case a1 => k_is)
    (case l1 => k_is)
    (case e1 => k_is)
    (case p1 => k_is)
    (case a2 => k_is)
    (case l2 => k_is)
    (case e2 => k_is)
    (case p2 => k_is)
    (case a3 => k_is)
    (case l3 => k_is)
    (case e3 => k_is)
    (case p3 => k_is)
    (case a4 => k_is)
    (case l4 => k_is)
    (case e4 => k_is)
    (case p4 => k_is)
    (case a5 => k_is)
    (case l5 => k_is)
    (case e5 => k_is)
    (case p5 => k_is)
    (case a6 => k_is)
    (case l6 => k_is)
    (case e6 => k_is)
    (case p6 => k_is)
    (case a7 => k_is)
    (case l7 => k_is)
    (case e7 => k_is)
    (case p7 => k_is)
    (case a8 => k_is)
    (case l8 => k_is)
    (case e8 => k_is)
    (case p8 => k_is)
    (case a9 => k_is)
    (case l9 => k_is)
    (case e9 => k_is)
    (case p9 => k_is)
    (case a10 => k_is)
    (case l10 => k_is)
    (case e10 => k_is)
    (case p10 => k_is)
    (case a11 => k_is)
    (case l11 => k_is)
    (case e11 => k_is)
    (case p11 => k_is)
    (case a12 => k_is)
    (case l12 => k_is)
    (case e12 => k_is)
    (case p12 => k_is)
    (case a13 => k_is)
    (case l13 => k_is)
    (case e13 => k_is)
    (case p13 => k_is)
    (case a14 => k_is)
    (case l14 => k_is)
    (case e14 => k_is)
    (case p14 => k_is)
    (case a15 => k_is)
    (case l15 => k_is)
    (case e15 => k_is)
    (case p15 => k_is)
    (case a16 => k_is)
    (case l16 => k_is)
    (case e16 => k_is)
    (case p16 => k_is)
    (case a17 => k_is)
    (case l17 => k_is)
    (case e17 => k_is)
    (case p17 => k_is)
    (case a18 => k_is)
    (case l18 => k_is)
    (case e18 => k_is)
    (case p18 => k_is)
    (case a19 => k_is)
    (case l19 => k_is)
    (case e19 => k_is)
    (case p19 => k_is)
    (case a20 => k_is)
    (case l20 => k_is)
    (case e20 => k_is)
    (case p20 => k_is)
    (case z_abs => k_is)
    (case z_all => k_is)
    (case z_any => k_is)
    (case z_bool => k_is)
    (case z_int => k_is)
    (case z_isinstance => k_is)
    (case z_len => k_is)
    (case z_list => k_is)
    (case z_range => k_is)
    (case z_repr => k_is)
    (case z_str => k_is)
    (case z_tuple => k_is)
    (case g_JOINS => k_is)
    (case l_JOINS => k_is)
    (case v_JOINS => exact (.cons ⟨_, rfl⟩ (.cons ⟨_, rfl⟩ (.cons ⟨_, rfl⟩ .nil))))
    (case g_LETTERS => k_is)
    (case g_MOST_PARTS => k_is)
    (case g_MOST_SIGNS => k_is)
    (case g_NO => k_is)
    (case g_OR => k_is)
    (case g_WORDS => k_is)
    (case l_WORDS => k_is)
    (case v_WORDS => exact (.cons ⟨_, rfl⟩ (.cons ⟨_, rfl⟩ (.cons ⟨_, rfl⟩ (.cons ⟨_, rfl⟩ (.cons ⟨_, rfl⟩ (.cons ⟨_, rfl⟩ (.cons ⟨_, rfl⟩ (.cons ⟨_, rfl⟩ (.cons ⟨_, rfl⟩ (.cons ⟨_, rfl⟩ (.cons ⟨_, rfl⟩ (.cons ⟨_, rfl⟩ (.cons ⟨_, rfl⟩ (.cons ⟨_, rfl⟩ (.cons ⟨_, rfl⟩ (.cons ⟨_, rfl⟩ .nil)))))))))))))))))
    (case g_YES => k_is)
    (case g_INNER => k_is)
    (case l_INNER => k_is)
    (case y_INNER => exact ⟨⟨_, _, rfl, rfl⟩, ⟨_, _, rfl, rfl⟩, ⟨_, _, rfl, rfl⟩, trivial⟩)
    (case w_INNER => first | k_is | rfl | decide)
    (case v_INNER => exact (.cons ⟨_, rfl⟩ ⟨.int 2, ⟨_, rfl⟩, fun _ => .int 2⟩ (.cons ⟨_, rfl⟩ ⟨.int 1, ⟨_, rfl⟩, fun _ => .int 1⟩ (.cons ⟨_, rfl⟩ ⟨.int 1, ⟨_, rfl⟩, fun _ => .int 1⟩ .nil))))
#print axioms PySem.Challenge.cw_provenruns_k26_values_and_bare_ones_holds
