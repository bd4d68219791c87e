import PyProof.Rows.All
import Wide.All
import OpenK.AllK
import Wide.FinOn
import HandS.ForMost
import HandS.Exc
import HandS.ExcOwn
import HandS.WordsExc
import HandS.CallSlots
import HandS.Lambda
import HandS.TupAny
import HandS.TupMul
import HandS.Style
import HandS.IsInst
import HandS.Star
import HandS.Iter
import HandS.Comp
import HandS.Conv
import HandS.Defaults
import HandS.ExcInit
import KE.KExcSuper
import HandS.ExcValue
import HandS.ExcField
import HandS.ExcIs
import KE.KExcIs
import KE.KDflt
import PyProof.ReprBulk
import PyProof.ReprRoads
import HandS.EndOwn
import HandS.Sort
import HandS.DictComp
import HandS.SetTxt0
import HandS.TupSets
import HandS.Strs
import PySem.Challenge.RW_provenruns_k01_statements_and_their_part
import KE.KNestM
import KE.RegKSuper
set_option Elab.async false
set_option linter.all false
set_option maxRecDepth 100000
set_option maxHeartbeats 4000000
set_option autoImplicit false
/-! L3: an exception as a value of the heap; tables -/
namespace L2
open PySem PySem.Spec PyProof.Rows
/-- an exception as a value: its class, where its dict stands -/
def exv (a : Addr) (cls : Value) (d : Option Addr) : HO := .ext fun h => ∃ (oe : Obj) (vs : Array Value), h.get? a = some oe ∧ Zc cls d oe ∧ oe.data = .fields vs
theorem exv_ok {P : Program} {w : World} {H : Hp} {h : Heap} {a : Addr} {cls : Value} {d : Option Addr} {oe : Obj} {vs : Array Value} (e : h.get? a = some oe) (z : Zc cls d oe) (hd : oe.data = .fields vs) : ObjOk P w H h a (exv a cls d) :=
  ⟨⟨oe, vs, e, z, hd⟩, ⟨oe, e⟩, fun h1 h2 ⟨o, v, q1, q2, q3⟩ k => ⟨o, v, k _ q1, q2, q3⟩⟩
theorem exv_at {P : Program} {w : World} {H : Hp} {h : Heap} {a : Addr} {cls : Value} {d : Option Addr} (hok : HOk P w H h) (he : H a = some (exv a cls d)) : ∃ (oe : Obj) (vs : Array Value), h.get? a = some oe ∧ Zc cls d oe ∧ oe.data = .fields vs := by
  have x : ObjOk P w H h a (.ext fun h => ∃ (oe : Obj) (vs : Array Value), h.get? a = some oe ∧ Zc cls d oe ∧ oe.data = .fields vs) := hok a _ he
  exact x.1
theorem _root_.LamX.Tabs.ne {T : List (Addr × Str)} {H : Hp} {a : Addr} (t : LamX.Tabs T H) (h : ∀ ps, H a ≠ some (.tbl ps)) : a ∉ T.map (·.1) := fun z => by
  obtain ⟨p, hp, rfl⟩ := List.mem_map.mp z
  obtain ⟨ps, e, _⟩ := t p hp
  exact h ps e
theorem _root_.LamX.Tabs.there {T : List (Addr × Str)} {H : Hp} {a : Addr} (t : LamX.Tabs T H) (h : a ∈ T.map (·.1)) : H a ≠ none := fun z => by
  obtain ⟨p, hp, rfl⟩ := List.mem_map.mp h
  obtain ⟨ps, e, _⟩ := t p hp
  rw [z] at e; cases e
/-- all but one object stay, and that one is no table and no code object -/
theorem _root_.LamX.Tabs.fr {T : List (Addr × Str)} {H H' : Hp} {a : Addr} {u : HO} (t : LamX.Tabs T H) (h : H a = some u) (h1 : ∀ ps, u ≠ .tbl ps) (h2 : ∀ φ, u ≠ .ext φ) (k0 : ∀ b o, H b = some o → b ≠ a → H' b = some o) : LamX.Tabs T H' := fun p hp => by
  obtain ⟨ps, e, tr, k⟩ := t p hp
  have n1 : p.1 ≠ a := fun z => by rw [z, h] at e; cases e; exact h1 _ rfl
  refine ⟨ps, k0 _ _ e n1, tr, fun pos cv hc => ?_⟩
  obtain ⟨c, e1, e2⟩ := k pos cv hc
  have n2 : c ≠ a := fun z => by rw [z, h] at e2; cases e2; exact h2 _ rfl
  exact ⟨c, e1, k0 _ _ e2 n2⟩
/-- an object that is no table and no code object is written -/
theorem _root_.LamX.Tabs.upd {T : List (Addr × Str)} {H : Hp} {a : Addr} {o u : HO} (t : LamX.Tabs T H) (h : H a = some u) (h1 : ∀ ps, u ≠ .tbl ps) (h2 : ∀ φ, u ≠ .ext φ) : LamX.Tabs T (upd H a o) := fun p hp => by
  obtain ⟨ps, e, tr, k⟩ := t p hp
  have n1 : p.1 ≠ a := fun z => by rw [z, h] at e; cases e; exact h1 _ rfl
  refine ⟨ps, by rw [upd_ne n1]; exact e, tr, fun pos cv hc => ?_⟩
  obtain ⟨c, e1, e2⟩ := k pos cv hc
  have n2 : c ≠ a := fun z => by rw [z, h] at e2; cases e2; exact h2 _ rfl
  exact ⟨c, e1, by rw [upd_ne n2]; exact e2⟩
end L2

/-! L3: judgements over data without a heap, on the hand layer -/
namespace L3
open PySem PySem.Spec PyProof.Rows L2
abbrev St := L2.St

theorem ofS_inj {a b : String} : (Str.ofString a = Str.ofString b) = (a = b) := by
  apply propext
  constructor
  · intro h
    rw [Str.ofString_eq_toList, Str.ofString_eq_toList] at h
    have h1 := congrArg (fun s : Str => s.cps.toList) h
    simp only at h1
    have h2 : a.toList.map Char.toNat = b.toList.map Char.toNat := by simpa using h1
    have h3 : a.toList = b.toList := by
      have inj : ∀ l m : List Char, l.map Char.toNat = m.map Char.toNat → l = m := by
        intro l
        induction l with
        | nil => intro m h; cases m with
          | nil => rfl
          | cons _ _ => simp at h
        | cons x l ih => intro m h; cases m with
          | nil => simp at h
          | cons y m =>
            simp only [List.map_cons, List.cons.injEq] at h
            rw [ih m h.2, Char.toNat_inj.mp h.1]
      exact inj _ _ h2
    exact String.toList_inj.mp h3
  · intro h; rw [h]

/-! ### data -/
inductive D where
  | non | bl (b : Bool) | int (i : Int) | str (x : Str)
  | tup (xs : List D) | lst (xs : List D)
  | dct (ks : List Key) (xs : List D)
  | ins (C : Addr) (fs : List Str) (xs : List D)

/-- fields of an instance (those with a mark at the head are other things) -/
def okF : List Str → Bool
  | x :: _ => x != "[]" && x != "!" && x != "fn"
  | [] => true
mutual
inductive RepD (K : PySem.W.Frag) (G : Hp) : D → V → Prop
  | non : RepD K G .non .non
  | bl (b : Bool) : RepD K G (.bl b) (.bl b)
  | int (i : Int) : RepD K G (.int i) (.int i)
  | str (x : Str) : RepD K G (.str x) (.str x)
  | tup {a : Addr} {vs : List V} {ds : List D} : SqT K G a vs → RepDs K G ds vs → RepD K G (.tup ds) (.ref a)
  | lst {a : Addr} {vs : List V} {ds : List D} : G a = some (.lst vs) → RepDs K G ds vs → RepD K G (.lst ds) (.ref a)
  | dct {a : Addr} {ks : List Key} {vs : List V} {ds : List D} : G a = some (.dK (ks.zip vs)) → ks.length = vs.length → RepDs K G ds vs → RepD K G (.dct ks ds) (.ref a)
  | ins {a C dx : Addr} {fs : List Str} {vs : List V} {ds : List D} : okF fs = true → G a = some (.ins C dx (fs.zip vs)) → fs.length = vs.length → RepDs K G ds vs → RepD K G (.ins C fs ds) (.ref a)
  | scr {a : Addr} {vs : List V} {ds : List D} : SqL K G a vs → RepDs K G ds vs → RepD K G (.ins 0 ["[]"] ds) (.ref a)
  | exn {a C dx : Addr} {fs : List Str} {vs : List V} {ds : List D} : G a = some (exv a (.ref C) (some dx)) → G dx = some (.xd (fs.zip vs)) → fs.length = vs.length → RepDs K G ds vs → RepD K G (.ins C ("!" :: fs) ds) (.ref a)
  | fn {f : Addr} : RepD K G (.ins f ["fn"] []) (.ref f)
inductive RepDs (K : PySem.W.Frag) (G : Hp) : List D → List V → Prop
  | nil : RepDs K G [] []
  | cons {d : D} {v : V} {ds : List D} {vs : List V} : RepD K G d v → RepDs K G ds vs → RepDs K G (d :: ds) (v :: vs)
end

/-- an exception as data -/
def excD (C : Addr) (fs : List Str) (xs : List D) : D := .ins C ("!" :: fs) xs
/-- a function as data -/
def fnD (f : Addr) : D := .ins f ["fn"] []
/-- the script as data: a list that nobody changes -/
def scrD (xs : List D) : D := .ins 0 ["[]"] xs
theorem _root_.L2.Rd.same {H H' : Hp} {a : Addr} {u : HO} (h : Rd H a u) (e : Same H H') : Rd H' a u := by
  rcases h with h | ⟨o, h⟩
  · exact .inl (e _ _ h)
  · exact .inr ⟨o, e _ _ h⟩
theorem Same.seqL {K : PySem.W.Frag} {H H' : Hp} {a : Addr} {xs : List V} (e : Same H H') (h : SqL K H a xs) : SqL K H' a xs := by
  rcases h with h | h
  · exact .inl (h.same e)
  · exact .inr h
theorem Same.seqT {K : PySem.W.Frag} {H H' : Hp} {a : Addr} {xs : List V} (e : Same H H') (h : SqT K H a xs) : SqT K H' a xs := by
  rcases h with (h | ⟨o, h⟩) | h
  · exact .inl (.inl (e _ _ h))
  · exact .inl (.inr ⟨o, e _ _ h⟩)
  · exact .inr h

section
variable {K : PySem.W.Frag} {G G' : Hp}
mutual
theorem RepD.mono (s : Same G G') : ∀ {d : D} {v : V}, RepD K G d v → RepD K G' d v
  | _, _, .non => .non
  | _, _, .bl b => .bl b
  | _, _, .int i => .int i
  | _, _, .str x => .str x
  | _, _, .tup h r => .tup (Same.seqT s h) (RepDs.mono s r)
  | _, _, .lst h r => .lst (s _ _ h) (RepDs.mono s r)
  | _, _, .dct h l r => .dct (s _ _ h) l (RepDs.mono s r)
  | _, _, .ins n h l r => .ins n (s _ _ h) l (RepDs.mono s r)
  | _, _, .scr h r => .scr (Same.seqL s h) (RepDs.mono s r)
  | _, _, .exn h1 h2 l r => .exn (s _ _ h1) (s _ _ h2) l (RepDs.mono s r)
  | _, _, .fn => .fn
theorem RepDs.mono (s : Same G G') : ∀ {ds : List D} {vs : List V}, RepDs K G ds vs → RepDs K G' ds vs
  | _, _, .nil => .nil
  | _, _, .cons h r => .cons (RepD.mono s h) (RepDs.mono s r)
end
theorem RepDs.length : ∀ {ds : List D} {vs : List V}, RepDs K G ds vs → ds.length = vs.length
  | _, _, .nil => rfl
  | _, _, .cons _ r => by simp [RepDs.length r]
theorem RepDs.get : ∀ {ds : List D} {vs : List V} {i : Nat} {v : V}, RepDs K G ds vs → vs[i]? = some v → ∃ d, ds[i]? = some d ∧ RepD K G d v
  | _, _, i, _, .nil, e => by simp at e
  | _, _, 0, _, .cons h _, e => by simp at e; subst e; exact ⟨_, rfl, h⟩
  | _, _, i + 1, _, .cons _ r, e => by simpa using RepDs.get (i := i) r (by simpa using e)
theorem RepDs.get' : ∀ {ds : List D} {vs : List V} {i : Nat} {d : D}, RepDs K G ds vs → ds[i]? = some d → ∃ v, vs[i]? = some v ∧ RepD K G d v
  | _, _, i, _, .nil, e => by simp at e
  | _, _, 0, _, .cons h _, e => by simp at e; subst e; exact ⟨_, rfl, h⟩
  | _, _, i + 1, _, .cons _ r, e => by simpa using RepDs.get' (i := i) r (by simpa using e)
theorem RepDs.append : ∀ {ds es : List D} {vs us : List V}, RepDs K G ds vs → RepDs K G es us → RepDs K G (ds ++ es) (vs ++ us)
  | _, _, _, _, .nil, s => s
  | _, _, _, _, .cons h r, s => .cons h (RepDs.append r s)
theorem RepDs.take : ∀ {ds : List D} {vs : List V} (n : Nat), RepDs K G ds vs → RepDs K G (ds.take n) (vs.take n)
  | _, _, 0, _ => .nil
  | _, _, _ + 1, .nil => .nil
  | _, _, n + 1, .cons h r => .cons h (RepDs.take n r)
theorem RepDs.drop : ∀ {ds : List D} {vs : List V} (n : Nat), RepDs K G ds vs → RepDs K G (ds.drop n) (vs.drop n)
  | _, _, 0, r => r
  | _, _, _ + 1, .nil => .nil
  | _, _, n + 1, .cons _ r => RepDs.drop n r
theorem RepDs.reverse : ∀ {ds : List D} {vs : List V}, RepDs K G ds vs → RepDs K G ds.reverse vs.reverse
  | _, _, .nil => .nil
  | _, _, .cons h r => by
    rw [List.reverse_cons, List.reverse_cons]
    exact RepDs.append (RepDs.reverse r) (.cons h .nil)
theorem RepDs.set {d : D} {v : V} (h : RepD K G d v) : ∀ {ds : List D} {vs : List V} (i : Nat), RepDs K G ds vs → RepDs K G (ds.set i d) (vs.set i v)
  | _, _, _, .nil => .nil
  | _, _, 0, .cons _ r => .cons h r
  | _, _, i + 1, .cons q r => .cons q (RepDs.set h i r)
theorem RepDs.eraseIdx : ∀ {ds : List D} {vs : List V} (i : Nat), RepDs K G ds vs → RepDs K G (ds.eraseIdx i) (vs.eraseIdx i)
  | _, _, _, .nil => .nil
  | _, _, 0, .cons _ r => r
  | _, _, i + 1, .cons q r => .cons q (RepDs.eraseIdx i r)
end

/-! ### slots -/
inductive S where
  | no
  | d (x : D)
  | ol (xs : List D)
  | od (ks : List Key) (xs : List D)
  | well (n : Nat)
  | wl (xs : List D)
def S.own : S → Bool
  | .no => false
  | .d _ => false
  | _ => true
def S.fixd : S → Bool
  | .well _ => true
  | .wl _ => true
  | _ => false

theorem S.own_of_fixd : ∀ {s : S}, s.fixd = true → s.own = true
  | .well _, _ => rfl
  | .wl _, _ => rfl
/-- what the well looks like: its cells, how many were begun (at most n), what is left -/
def WellAt (K : PySem.W.Frag) (G H : Hp) (a : Addr) (n : Nat) : Prop :=
  ∃ (c : Addr) (cs : List Int) (t r : Int), H a = some (.lst [.ref c, .int t, .int r]) ∧ G c = some (.lst (cs.map V.int)) ∧ cs.length ≤ 100 ∧ 0 ≤ t ∧ t ≤ n ∧ 0 ≤ r

def SlotR (K : PySem.W.Frag) (G H : Hp) : S → Option V → Prop
  | .no, _ => True
  | .d x, ov => ∃ v, ov = some v ∧ RepD K G x v
  | .ol xs, ov => ∃ a vs, ov = some (.ref a) ∧ H a = some (.lst vs) ∧ RepDs K G xs vs
  | .od ks xs, ov => ∃ a vs, ov = some (.ref a) ∧ H a = some (.dK (ks.zip vs)) ∧ ks.length = vs.length ∧ RepDs K G xs vs
  | .well n, ov => ∃ a, ov = some (.ref a) ∧ WellAt K G H a n
  | .wl xs, ov => ∃ a vs, ov = some (.ref a) ∧ H a = some (.lst vs) ∧ RepDs K G xs vs

/-- an activation's constants: the heap at its entry, the frozen part, the addresses that are handed by reference -/
structure C0 where
  H0 : Hp
  G0 : Hp
  ad : Nat → Option Addr
  n : Nat
  T : List (Addr × Str)
/-- the tables of code objects -/
def C0.tb (c : C0) : List Addr := c.T.map (·.1)
theorem tb_nil {H G : Hp} {ad : Nat → Option Addr} {n : Nat} {a : Addr} : a ∉ C0.tb ⟨H, G, ad, n, []⟩ := by simp [C0.tb]
def C0.rf (c : C0) (a : Addr) : Prop := ∃ i, c.ad i = some a

def OwnAt (σ : St) (e : List S) (a : Addr) : Prop := ∃ (i : Nat) (s : S), e[i]? = some s ∧ s.own = true ∧ σ[i]? = some (some (V.ref a))

structure Rel (K : PySem.W.Frag) (c : C0) (G H : Hp) (σ : St) (e : List S) : Prop where
  len : σ.length = e.length
  sl : ∀ (i : Nat) (s : S), e[i]? = some s → SlotR K G H s (σ[i]?).join
  gh : Same G H
  keep : ∀ a o, c.H0 a = some o → ¬ c.rf a → a ∉ c.tb → H a = some o
  gsub : Same c.G0 G
  gnew : ∀ a, G a ≠ none → c.G0 a ≠ none ∨ c.H0 a = none
  own : ∀ a, OwnAt σ e a → G a = none ∧ (c.H0 a = none ∨ c.rf a)
  inj : ∀ (i j : Nat) (s t : S) (a : Addr), e[i]? = some s → e[j]? = some t → s.own = true → t.own = true → σ[i]? = some (some (V.ref a)) → σ[j]? = some (some (V.ref a)) → i = j
  rfs : ∀ (i : Nat) (a : Addr), c.ad i = some a → σ[i]? = some (some (V.ref a)) ∧ ∃ s : S, e[i]? = some s ∧ s.fixd = true
  ln : e.length = c.n
  tabs : LamX.Tabs c.T H
  gt : ∀ a ∈ c.tb, G a = none

structure Step (K : PySem.W.Frag) (c : C0) (σ : St) (G H : Hp) (e : List S) (G' H' : Hp) (e' : List S) : Prop where
  rel : Rel K c G' H' σ e'
  sg : Same G G'
  fr : ∀ a o, H a = some o → ¬ OwnAt σ e a → a ∉ c.tb → H' a = some o
  gn : ∀ a, G' a ≠ none → G a ≠ none ∨ H a = none ∨ OwnAt σ e a
  ow : ∀ a, OwnAt σ e' a → OwnAt σ e a
  th : ∀ a, H a ≠ none → H' a ≠ none
  old : LamX.Tabs c.T H
section
variable {K : PySem.W.Frag} {c : C0} {σ : St} {G H G1 H1 G2 H2 : Hp} {e e1 e2 : List S}
theorem Step.refl (r : Rel K c G H σ e) : Step K c σ G H e G H e := ⟨r, Same.refl _, fun _ _ h _ _ => h, fun _ h => .inl h, fun _ h => h, fun _ h => h, r.tabs⟩
theorem Step.trans (r : Rel K c G H σ e) (a : Step K c σ G H e G1 H1 e1) (b : Step K c σ G1 H1 e1 G2 H2 e2) : Step K c σ G H e G2 H2 e2 where
  rel := b.rel
  sg := a.sg.trans b.sg
  fr := fun x o h n t => b.fr x o (a.fr x o h n t) (fun z => n (a.ow x z)) t
  gn := fun x h => by
    rcases b.gn x h with q | q | q
    · exact a.gn x q
    · by_cases z : OwnAt σ e x
      · exact .inr (.inr z)
      · cases hx : H x with
        | none => exact .inr (.inl rfl)
        | some o => exact absurd q (a.th x (by rw [hx]; simp))
    · exact .inr (.inr (a.ow x q))
  ow := fun x h => a.ow x (b.ow x h)
  th := fun x h => b.th x (a.th x h)
  old := a.old
end

/-- what an expression gives: data; what stands in a slot of one's own; a new list (a new dict) -/
inductive R where
  | d (x : D)
  | sl (i : Nat)
  | tl (xs : List D)
  | td (ks : List Key) (xs : List D)
  | tw (n : Nat)
def RepR (K : PySem.W.Frag) (Hs G H : Hp) (σ : St) (e : List S) : R → V → Prop
  | .d x, v => RepD K G x v
  | .sl i, v => σ[i]? = some (some v)
  | .tl xs, v => ∃ a vs, v = .ref a ∧ H a = some (.lst vs) ∧ RepDs K G xs vs ∧ G a = none ∧ Hs a = none ∧ ¬ OwnAt σ e a
  | .td ks xs, v => ∃ a vs, v = .ref a ∧ H a = some (.dK (ks.zip vs)) ∧ ks.length = vs.length ∧ RepDs K G xs vs ∧ G a = none ∧ Hs a = none ∧ ¬ OwnAt σ e a
  | .tw n, v => ∃ a, v = .ref a ∧ WellAt K G H a n ∧ G a = none ∧ Hs a = none ∧ ¬ OwnAt σ e a
def see (e : List S) : R → Option D
  | .d x => some x
  | .tl xs => some (.lst xs)
  | .td ks xs => some (.dct ks xs)
  | .tw _ => none
  | .sl i => match e[i]? with
    | some (.d x) => some x
    | some (.ol xs) => some (.lst xs)
    | some (.od ks xs) => some (.dct ks xs)
    | _ => none
/-- behind a use as data -/
def fz (e : List S) : R → List S
  | .sl i => match e[i]? with
    | some (.ol xs) => e.set i (.d (.lst xs))
    | some (.od ks xs) => e.set i (.d (.dct ks xs))
    | _ => e
  | _ => e
/-- data at a value, its top perhaps one's own -/
def DV (K : PySem.W.Frag) (G H : Hp) (d : D) (v : V) : Prop :=
  RepD K G d v ∨ (∃ a vs xs, d = .lst xs ∧ v = .ref a ∧ H a = some (.lst vs) ∧ RepDs K G xs vs) ∨ (∃ a ks vs xs, d = .dct ks xs ∧ v = .ref a ∧ H a = some (.dK (ks.zip vs)) ∧ ks.length = vs.length ∧ RepDs K G xs vs)

section
variable {K : PySem.W.Frag} {c : C0} {σ : St} {Hs G H G1 H1 G2 H2 : Hp} {e e1 e2 : List S} {ρ : R} {v : V} {d : D}
theorem WellAt.mono {G' H' : Hp} {a : Addr} {n : Nat} (s : Same G G') (h : ∀ o, H a = some o → H' a = some o) (w : WellAt K G H a n) : WellAt K G' H' a n := by
  obtain ⟨c, cs, t, r, h1, h2, q⟩ := w
  exact ⟨c, cs, t, r, h _ h1, s _ _ h2, q⟩
theorem WellAt.le {a : Addr} {n m : Nat} (l : n ≤ m) (w : WellAt K G H a n) : WellAt K G H a m := by
  obtain ⟨c, cs, t, r, h1, h2, h3, h4, h5, h6⟩ := w
  exact ⟨c, cs, t, r, h1, h2, h3, h4, by omega, h6⟩
/-- a result is kept through a step -/
theorem RepR.step (st : Step K c σ G H e G1 H1 e1) (r : RepR K Hs G H σ e ρ v) : RepR K Hs G1 H1 σ e1 ρ v := by
  cases ρ with
  | d x => exact RepD.mono st.sg r
  | sl i => exact r
  | tl xs =>
    obtain ⟨a, vs, rfl, h1, h2, h3, h4, h5⟩ := r
    refine ⟨a, vs, rfl, st.fr a _ h1 h5 (st.old.ne fun ps z => by rw [h1] at z; cases z), RepDs.mono st.sg h2, ?_, h4, fun z => h5 (st.ow a z)⟩
    cases q : G1 a with
    | none => rfl
    | some o =>
      rcases st.gn a (by rw [q]; simp) with z | z | z
      · exact absurd h3 z
      · rw [h1] at z; cases z
      · exact absurd z h5
  | td ks xs =>
    obtain ⟨a, vs, rfl, h1, hl, h2, h3, h4, h5⟩ := r
    refine ⟨a, vs, rfl, st.fr a _ h1 h5 (st.old.ne fun ps z => by rw [h1] at z; cases z), hl, RepDs.mono st.sg h2, ?_, h4, fun z => h5 (st.ow a z)⟩
    cases q : G1 a with
    | none => rfl
    | some o =>
      rcases st.gn a (by rw [q]; simp) with z | z | z
      · exact absurd h3 z
      · rw [h1] at z; cases z
      · exact absurd z h5
  | tw n =>
    obtain ⟨a, rfl, h1, h3, h4, h5⟩ := r
    obtain ⟨o, ho⟩ : ∃ o, H a = some o := by obtain ⟨c, cs, t, r, z, _⟩ := h1; exact ⟨_, z⟩
    have nt : a ∉ c.tb := st.old.ne fun ps z => by rw [ho] at z; obtain ⟨_, _, _, _, q, _⟩ := h1; rw [ho] at q; cases q; cases z
    refine ⟨a, rfl, h1.mono st.sg fun o h => st.fr a _ h h5 nt, ?_, h4, fun z => h5 (st.ow a z)⟩
    cases q : G1 a with
    | none => rfl
    | some o =>
      rcases st.gn a (by rw [q]; simp) with z | z | z
      · exact absurd h3 z
      · rw [ho] at z; cases z
      · exact absurd z h5
theorem Rel.slot (r : Rel K c G H σ e) {i : Nat} {s : S} {v : V} (h : e[i]? = some s) (hv : σ[i]? = some (some v)) : SlotR K G H s (some v) := by
  have q := r.sl i s h
  rw [hv] at q
  exact q
/-- a result seen as data -/
theorem RepR.see (rl : Rel K c G H σ e) (r : RepR K Hs G H σ e ρ v) (h : see e ρ = some d) : DV K G H d v := by
  cases ρ with
  | d x => cases h; exact .inl r
  | tl xs => cases h; obtain ⟨a, vs, rfl, h1, h2, _⟩ := r; exact .inr (.inl ⟨a, vs, xs, rfl, rfl, h1, h2⟩)
  | td ks xs => cases h; obtain ⟨a, vs, rfl, h1, hl, h2, _⟩ := r; exact .inr (.inr ⟨a, ks, vs, xs, rfl, rfl, h1, hl, h2⟩)
  | tw n => cases h
  | sl i =>
    have r' : σ[i]? = some (some v) := r
    simp only [L3.see] at h
    cases es : e[i]? with
    | none => rw [es] at h; cases h
    | some s =>
      rw [es] at h
      have q := rl.slot es r'
      cases s with
      | no => cases h
      | well n => cases h
      | wl _ => cases h
      | d x =>
        cases h
        obtain ⟨w, hw, k⟩ := q
        cases hw
        exact .inl k
      | ol xs =>
        cases h
        obtain ⟨a, vs, hw, k1, k2⟩ := q
        cases hw
        exact .inr (.inl ⟨a, vs, xs, rfl, rfl, k1, k2⟩)
      | od ks xs =>
        cases h
        obtain ⟨a, vs, hw, k1, k2, k3⟩ := q
        cases hw
        exact .inr (.inr ⟨a, ks, vs, xs, rfl, rfl, k1, k2, k3⟩)
/-- the beginning moved ahead -/
theorem RepR.back {G0 H0 : Hp} {e0 : List S} (st : Step K c σ G0 H0 e0 G H e) {G1 H1 : Hp} {e1 : List S} (r : RepR K H G1 H1 σ e1 ρ v) : RepR K H0 G1 H1 σ e1 ρ v := by
  have k : ∀ a, H a = none → H0 a = none := fun a h => by
    cases q : H0 a with
    | none => rfl
    | some o => exact absurd h (st.th a (by rw [q]; simp))
  cases ρ with
  | d x => exact r
  | sl i => exact r
  | tl xs => obtain ⟨a, vs, q1, q2, q3, q4, q5, q6⟩ := r; exact ⟨a, vs, q1, q2, q3, q4, k _ q5, q6⟩
  | td ks xs => obtain ⟨a, vs, q1, q2, ql, q3, q4, q5, q6⟩ := r; exact ⟨a, vs, q1, q2, ql, q3, q4, k _ q5, q6⟩
  | tw n => obtain ⟨a, q1, q2, q4, q5, q6⟩ := r; exact ⟨a, q1, q2, q4, k _ q5, q6⟩
end

/-! ### how the state changes -/
section
variable {K : PySem.W.Frag} {c : C0} {σ : St} {Hs G H G1 H1 G2 H2 : Hp} {e e1 e2 : List S} {ρ : R} {v : V} {d : D} {a p : Addr}
theorem SlotR.mono {s : S} {ov : Option V} (sg : Same G G1) (sh : ∀ b o, s.own = true → ov = some (.ref b) → H b = some o → H1 b = some o) (r : SlotR K G H s ov) : SlotR K G1 H1 s ov := by
  cases s with
  | no => trivial
  | d x => obtain ⟨v, h, q⟩ := r; exact ⟨v, h, RepD.mono sg q⟩
  | ol xs => obtain ⟨b, vs, h, h1, h2⟩ := r; exact ⟨b, vs, h, sh b _ rfl h h1, RepDs.mono sg h2⟩
  | od ks xs => obtain ⟨b, vs, h, h1, hl, h2⟩ := r; exact ⟨b, vs, h, sh b _ rfl h h1, hl, RepDs.mono sg h2⟩
  | well n => obtain ⟨b, h, h1⟩ := r; exact ⟨b, h, h1.mono sg fun o z => sh b o rfl h z⟩
  | wl xs => obtain ⟨b, vs, h, h1, h2⟩ := r; exact ⟨b, vs, h, sh b _ rfl h h1, RepDs.mono sg h2⟩
theorem SlotR.own_in {s : S} {b : Addr} (ho : s.own = true) (r : SlotR K G H s (some (.ref b))) : ∃ o, H b = some o := by
  cases s with
  | no => cases ho
  | d x => cases ho
  | ol xs => obtain ⟨a, vs, h, h1, _⟩ := r; cases h; exact ⟨_, h1⟩
  | od ks xs => obtain ⟨a, vs, h, h1, _⟩ := r; cases h; exact ⟨_, h1⟩
  | well n => obtain ⟨a, h, c, cs, t, r, h1, _⟩ := r; cases h; exact ⟨_, h1⟩
  | wl xs => obtain ⟨a, vs, h, h1, _⟩ := r; cases h; exact ⟨_, h1⟩
theorem OwnAt.there (r : Rel K c G H σ e) (h : OwnAt σ e a) : ∃ o, H a = some o := by
  obtain ⟨i, s, h1, h2, h3⟩ := h
  exact (r.slot h1 h3).own_in h2
theorem Rel.ownH (r : Rel K c G H σ e) (h : OwnAt σ e a) : ∃ u, H a = some u ∧ (∀ ps, u ≠ .tbl ps) ∧ ∀ φ, u ≠ .ext φ := by
  obtain ⟨i, s, h1, h2, h3⟩ := h
  have q := r.slot h1 h3
  cases s with
  | no => cases h2
  | d x => cases h2
  | ol xs => obtain ⟨b, vs, e1, e2, _⟩ := q; cases e1; exact ⟨_, e2, (fun _ z => nomatch z), (fun _ z => nomatch z)⟩
  | od ks xs => obtain ⟨b, vs, e1, e2, _⟩ := q; cases e1; exact ⟨_, e2, (fun _ z => nomatch z), (fun _ z => nomatch z)⟩
  | well n => obtain ⟨b, e1, _, _, _, _, e2, _⟩ := q; cases e1; exact ⟨_, e2, (fun _ z => nomatch z), (fun _ z => nomatch z)⟩
  | wl xs => obtain ⟨b, vs, e1, e2, _⟩ := q; cases e1; exact ⟨_, e2, (fun _ z => nomatch z), (fun _ z => nomatch z)⟩
theorem Rel.ownT (r : Rel K c G H σ e) (h : OwnAt σ e a) : a ∉ c.tb := by
  obtain ⟨u, h1, h2, _⟩ := r.ownH h
  exact r.tabs.ne fun ps w => by rw [h1] at w; cases w; exact h2 _ rfl
theorem Rel.fresh0 (r : Rel K c G H σ e) (h : H p = none) : c.H0 p = none := by
  cases q : c.H0 p with
  | none => rfl
  | some o =>
    by_cases z : c.rf p
    · obtain ⟨i, hi⟩ := z
      obtain ⟨h1, s, h2, h3⟩ := r.rfs i p hi
      obtain ⟨o', ho⟩ := OwnAt.there r ⟨i, s, h2, S.own_of_fixd h3, h1⟩
      rw [h] at ho; cases ho
    · rw [r.keep p o q z (r.tabs.ne fun ps w => by rw [h] at w; cases w)] at h; cases h
theorem Rel.freshG (r : Rel K c G H σ e) (h : H p = none) : G p = none := r.gh.free h
theorem Rel.freshO (r : Rel K c G H σ e) (h : H p = none) : ¬ OwnAt σ e p := fun z => by
  obtain ⟨o, ho⟩ := OwnAt.there r z
  rw [h] at ho; cases ho
/-- the heap grows -/
theorem Step.ext (r : Rel K c G H σ e) (hH : Same H H1) (hG : Same G G1) (hGH : Same G1 H1) (hn : ∀ a, G1 a ≠ none → G a ≠ none ∨ H a = none) : Step K c σ G H e G1 H1 e where
  rel := ⟨r.len, fun i s h => (r.sl i s h).mono hG fun b o _ _ z => hH b o z, hGH, fun a o h n t => hH a o (r.keep a o h n t), r.gsub.trans hG,
    fun a h => (hn a h).elim (fun z => r.gnew a z) fun z => .inr (r.fresh0 z),
    fun a h => ⟨by
      cases q : G1 a with
      | none => rfl
      | some o =>
        rcases hn a (by rw [q]; simp) with z | z
        · exact absurd (r.own a h).1 z
        · exact absurd h (r.freshO z), (r.own a h).2⟩, r.inj, r.rfs, r.ln, r.tabs.ext hH, fun a ha => by
      cases q : G1 a with
      | none => rfl
      | some o =>
        rcases hn a (by rw [q]; simp) with z | z
        · exact absurd (r.gt a ha) z
        · exact absurd z (r.tabs.there ha)⟩
  sg := hG
  fr := fun a o h _ _ => hH a o h
  old := r.tabs
  gn := fun a h => (hn a h).elim .inl fun z => .inr (.inl z)
  ow := fun a h => h
  th := fun a h => by
    cases q : H a with
    | none => exact absurd q h
    | some o => rw [hH a o q]; simp
theorem same_upd {H : Hp} {p : Addr} {o : HO} (h : H p = none) : Same H (upd H p o) := fun b u e => by rw [upd_ne (ne_of_none e h)]; exact e
theorem same_upd2 {G H : Hp} {p : Addr} {o : HO} (s : Same G H) : Same (upd G p o) (upd H p o) := fun b u e => by
  by_cases z : b = p
  · subst z; rw [upd_same] at e ⊢; exact e
  · rw [upd_ne z] at e ⊢; exact s b u e

/-- how a result comes: known data, a new list, a new tuple, a new dict -/
inductive Out (K : PySem.W.Frag) (G H : Hp) : R → V → Hp → Hp → Prop
  | d {x : D} {v : V} : RepD K G x v → Out K G H (.d x) v G H
  | nl {p : Addr} {vs : List V} {xs : List D} : H p = none → RepDs K G xs vs → Out K G H (.tl xs) (.ref p) G (upd H p (.lst vs))
  | nt {p : Addr} {vs : List V} {xs : List D} : H p = none → RepDs K G xs vs → Out K G H (.d (.tup xs)) (.ref p) (upd G p (.tup vs)) (upd H p (.tup vs))
  | nd {p : Addr} {ks : List Key} {vs : List V} {xs : List D} : H p = none → ks.length = vs.length → RepDs K G xs vs → Out K G H (.td ks xs) (.ref p) G (upd H p (.dK (ks.zip vs)))
theorem Out.step (r : Rel K c G H σ e) (o : Out K G H ρ v G1 H1) : Step K c σ G H e G1 H1 e ∧ RepR K H G1 H1 σ e ρ v := by
  cases o with
  | d h => exact ⟨Step.refl r, h⟩
  | @nl p vs xs hp h =>
    refine ⟨Step.ext r (same_upd hp) (Same.refl _) (r.gh.trans (same_upd hp)) fun a h => .inl h, p, vs, rfl, upd_same, h, r.freshG hp, hp, r.freshO hp⟩
  | @nt p vs xs hp h =>
    refine ⟨Step.ext r (same_upd hp) (same_upd (r.freshG hp)) (same_upd2 r.gh) fun a h => ?_, .tup (.inl (.inl upd_same)) (RepDs.mono (same_upd (r.freshG hp)) h)⟩
    by_cases z : a = p
    · subst z; exact .inr hp
    · rw [upd_ne z] at h; exact .inl h
  | @nd p ks vs xs hp hl h =>
    refine ⟨Step.ext r (same_upd hp) (Same.refl _) (r.gh.trans (same_upd hp)) fun a h => .inl h, p, vs, rfl, upd_same, hl, h, r.freshG hp, hp, r.freshO hp⟩
/-- a slot of one's own becomes data -/
theorem Step.freeze {i : Nat} {s : S} {x : D} {o : HO} {v : V} (r : Rel K c G H σ e) (hs : e[i]? = some s) (ho : s.own = true) (hf : s.fixd = false) (hv : σ[i]? = some (some (.ref a))) (hH : H a = some o)
    (hr : ∀ G', Same G G' → G' a = some o → RepD K G' x (.ref a)) : ∃ G', Step K c σ G H e G' H (e.set i (.d x)) ∧ RepD K G' x (.ref a) := by
  have oa : OwnAt σ e a := ⟨i, s, hs, ho, hv⟩
  have ga := (r.own a oa).1
  have sg : Same G (upd G a o) := same_upd ga
  have hi : i < e.length := (List.getElem?_eq_some_iff.mp hs).1
  have back : ∀ b, OwnAt σ (e.set i (.d x)) b → OwnAt σ e b ∧ b ≠ a := fun b ⟨j, t, h1, h2, h3⟩ => by
    by_cases z : i = j
    · subst z
      rw [List.getElem?_set_self hi] at h1
      cases h1; cases h2
    · rw [List.getElem?_set_ne z] at h1
      refine ⟨⟨j, t, h1, h2, h3⟩, fun q => z ?_⟩
      subst q
      exact r.inj i j s t b hs h1 ho h2 hv h3
  have rd := hr _ sg upd_same
  refine ⟨upd G a o, ⟨⟨by rw [List.length_set]; exact r.len, fun j t h1 => ?_, ?_, r.keep, r.gsub.trans sg, fun b h => ?_, fun b hb => ?_, fun j k t u b h1 h2 h3 h4 h5 h6 => ?_, fun j b h => ?_, by rw [List.length_set]; exact r.ln, r.tabs, fun b hb => by
    have nb : b ≠ a := fun z => r.ownT oa (by rw [← z]; exact hb)
    rw [upd_ne nb]
    exact r.gt b hb⟩, sg, fun _ _ h _ _ => h, fun b h => ?_, fun b hb => (back b hb).1, fun _ h => h, r.tabs⟩, rd⟩
  · by_cases z : i = j
    · subst z
      rw [List.getElem?_set_self hi] at h1
      cases h1
      exact ⟨.ref a, by rw [hv]; rfl, rd⟩
    · rw [List.getElem?_set_ne z] at h1
      exact (r.sl j t h1).mono sg fun _ _ _ _ h => h
  · intro b u h
    by_cases z : b = a
    · subst z; rw [upd_same] at h; cases h; exact hH
    · rw [upd_ne z] at h; exact r.gh b u h
  · by_cases z : b = a
    · subst z
      rcases (r.own b oa).2 with q | q
      · exact .inr q
      · obtain ⟨j, hj⟩ := q
        obtain ⟨h1, t, h2, h3⟩ := r.rfs j b hj
        have : j = i := r.inj j i t s b h2 hs (S.own_of_fixd h3) ho h1 hv
        subst this
        rw [hs] at h2; cases h2
        rw [hf] at h3; cases h3
    · rw [upd_ne z] at h; exact r.gnew b h
  · obtain ⟨q1, q2⟩ := back b hb
    rw [upd_ne q2]
    exact r.own b q1
  · by_cases z1 : i = j
    · subst z1; rw [List.getElem?_set_self hi] at h1; cases h1; cases h3
    · by_cases z2 : i = k
      · subst z2; rw [List.getElem?_set_self hi] at h2; cases h2; cases h4
      · rw [List.getElem?_set_ne z1] at h1
        rw [List.getElem?_set_ne z2] at h2
        exact r.inj j k t u b h1 h2 h3 h4 h5 h6
  · obtain ⟨h1, t, h2, h3⟩ := r.rfs j b h
    refine ⟨h1, t, ?_, h3⟩
    by_cases z : i = j
    · subst z; rw [hs] at h2; cases h2; rw [hf] at h3; cases h3
    · rw [List.getElem?_set_ne z]; exact h2
  · by_cases z : b = a
    · subst z; exact .inr (.inr oa)
    · rw [upd_ne z] at h; exact .inl h
/-- something new, not in a slot, becomes data -/
theorem Step.publish {x : D} {o : HO} {G0 H0 : Hp} {e0 : List S} (st : Step K c σ G0 H0 e0 G H e) (hH : H a = some o) (hs : H0 a = none) (hg : G a = none) (hn : ¬ OwnAt σ e a) (r0 : Rel K c G0 H0 σ e0)
    (hr : ∀ G', Same G G' → G' a = some o → RepD K G' x (.ref a)) : ∃ G', Step K c σ G0 H0 e0 G' H e ∧ RepD K G' x (.ref a) ∧ Same G G' := by
  have r := st.rel
  have sg : Same G (upd G a o) := same_upd hg
  have oth : ∀ b, OwnAt σ e b → b ≠ a := fun b hb z => by subst z; exact hn hb
  refine ⟨upd G a o, ⟨⟨r.len, fun j t h1 => (r.sl j t h1).mono sg fun _ _ _ _ h => h, ?_, r.keep, r.gsub.trans sg, fun b h => ?_, fun b hb => ?_, r.inj, r.rfs, r.ln, r.tabs, fun b hb => by
    have nb : b ≠ a := fun z => (st.old.ne (a := a) fun ps w => by rw [hs] at w; cases w) (by rw [← z]; exact hb)
    rw [upd_ne nb]
    exact r.gt b hb⟩, st.sg.trans sg, st.fr, fun b h => ?_, st.ow, st.th, st.old⟩, hr _ sg upd_same, sg⟩
  · intro b u h
    by_cases z : b = a
    · subst z; rw [upd_same] at h; cases h; exact hH
    · rw [upd_ne z] at h; exact r.gh b u h
  · by_cases z : b = a
    · subst z; exact .inr (r0.fresh0 hs)
    · rw [upd_ne z] at h; exact r.gnew b h
  · rw [upd_ne (oth b hb)]; exact r.own b hb
  · by_cases z : b = a
    · subst z; exact .inr (.inl hs)
    · rw [upd_ne z] at h; exact st.gn b h
/-- a result as data -/
theorem Step.asD {G0 H0 : Hp} {e0 : List S} (r0 : Rel K c G0 H0 σ e0) (st : Step K c σ G0 H0 e0 G H e) (r : RepR K H0 G H σ e ρ v) (h : see e ρ = some d) : ∃ G', Step K c σ G0 H0 e0 G' H (fz e ρ) ∧ RepD K G' d v ∧ Same G G' := by
  cases ρ with
  | d x => cases h; exact ⟨G, st, r, Same.refl _⟩
  | tw n => cases h
  | tl xs =>
    cases h
    obtain ⟨a, vs, rfl, h1, h2, h3, h4, h5⟩ := r
    exact Step.publish st h1 h4 h3 h5 r0 fun G' sg q => .lst q (RepDs.mono sg h2)
  | td ks xs =>
    cases h
    obtain ⟨a, vs, rfl, h1, hl, h2, h3, h4, h5⟩ := r
    exact Step.publish st h1 h4 h3 h5 r0 fun G' sg q => .dct q hl (RepDs.mono sg h2)
  | sl i =>
    have r' : σ[i]? = some (some v) := r
    simp only [L3.see] at h
    cases es : e[i]? with
    | none => rw [es] at h; cases h
    | some s =>
      rw [es] at h
      have q := st.rel.slot es r'
      cases s with
      | no => cases h
      | well n => cases h
      | wl _ => cases h
      | d x =>
        cases h
        obtain ⟨w, hw, k⟩ := q
        cases hw
        refine ⟨G, ?_, k, Same.refl _⟩
        simp only [fz, es]
        exact st
      | ol xs =>
        cases h
        obtain ⟨a, vs, hw, k1, k2⟩ := q
        cases hw
        obtain ⟨G', st', rd⟩ := Step.freeze (x := .lst xs) (v := .ref a) st.rel es rfl rfl r' k1 fun G' sg z => .lst z (RepDs.mono sg k2)
        refine ⟨G', ?_, rd, st'.sg⟩
        simp only [fz, es]
        exact st.trans r0 st'
      | od ks xs =>
        cases h
        obtain ⟨a, vs, hw, k1, k2, k3⟩ := q
        cases hw
        obtain ⟨G', st', rd⟩ := Step.freeze (x := .dct ks xs) (v := .ref a) st.rel es rfl rfl r' k1 fun G' sg z => .dct z k2 (RepDs.mono sg k3)
        refine ⟨G', ?_, rd, st'.sg⟩
        simp only [fz, es]
        exact st.trans r0 st'
end
end L3

/-! L3: what an expression's reading is over data -/
namespace L3
open PySem PySem.Spec PyProof.Rows L2

/-- an exception of one's own: its class, its dict -/
structure XV where
  C : Addr
  ns : List Str
  xs : List D
def RepX (K : PySem.W.Frag) (Hs G H : Hp) (x : XV) (cl : Value) (dd : Option Addr) : Prop :=
  cl = .ref x.C ∧ ∃ a vs, dd = some a ∧ H a = some (.xd (x.ns.zip vs)) ∧ x.ns.length = vs.length ∧ RepDs K G x.xs vs ∧ Hs a = none
theorem RepX.back {K : PySem.W.Frag} {H0 Hs G H : Hp} {x : XV} {cl : Value} {dd : Option Addr} (k : ∀ a, Hs a = none → H0 a = none) (h : RepX K Hs G H x cl dd) : RepX K H0 G H x cl dd := by
  obtain ⟨h1, a, vs, h2, h3, h4, h5, h6⟩ := h
  exact ⟨h1, a, vs, h2, h3, h4, h5, k a h6⟩
theorem none_back {H H' : Hp} (th : ∀ a, H a ≠ none → H' a ≠ none) : ∀ a, H' a = none → H a = none := fun a h => by
  cases q : H a with
  | none => rfl
  | some o => exact absurd h (th a (by rw [q]; simp))
abbrev XD := XV → List S → Prop
abbrev TDE := XD → List S → (R → List S → Prop) → Prop
abbrev TDT := XD → List S → (Bool → List S → Prop) → Prop
/-- an argument: data, or a slot by reference -/
inductive AR where
  | d (x : D)
  | rf (i : Nat)
abbrev TDA := XD → List S → (List AR → List S → Prop) → Prop
abbrev TDI := XD → List S → (List D → List S → Prop) → Prop
def RepA (K : PySem.W.Frag) (G : Hp) (σ : St) : AR → V → Prop
  | .d x, v => RepD K G x v
  | .rf i, v => σ[i]? = some (some v)
inductive RepAs (K : PySem.W.Frag) (G : Hp) (σ : St) : List AR → List V → Prop
  | nil : RepAs K G σ [] []
  | cons {a : AR} {v : V} {as : List AR} {vs : List V} : RepA K G σ a v → RepAs K G σ as vs → RepAs K G σ (a :: as) (v :: vs)

def KE (K : PySem.W.Frag) (c : C0) (W : WX) (Xd : XD) (σ : St) (G H : Hp) (e : List S) : Prop :=
  ∀ (x : XV) (e' : List S) (cl : Value) (dd : Option Addr) (G' H' : Hp), Step K c σ G H e G' H' e' → RepX K H G' H' x cl dd → Xd x e' → W cl dd σ H'

def liftE (K : PySem.W.Frag) (c : C0) (W : WX) (t : TDE) : TE := fun σ H Q => ∃ (G : Hp) (e : List S) (Qd : R → List S → Prop) (Xd : XD), Rel K c G H σ e ∧ t Xd e Qd ∧
  (∀ (ρ : R) (e' : List S) (v : V) (G' H' : Hp), Step K c σ G H e G' H' e' → RepR K H G' H' σ e' ρ v → Qd ρ e' → Q v H') ∧ KE K c W Xd σ G H e
def liftT (K : PySem.W.Frag) (c : C0) (W : WX) (t : TDT) : TT := fun σ H Q => ∃ (G : Hp) (e : List S) (Qd : Bool → List S → Prop) (Xd : XD), Rel K c G H σ e ∧ t Xd e Qd ∧
  (∀ (b : Bool) (e' : List S) (G' H' : Hp), Step K c σ G H e G' H' e' → Qd b e' → Q b H') ∧ KE K c W Xd σ G H e
def liftA (K : PySem.W.Frag) (c : C0) (W : WX) (t : TDA) : TA := fun σ H Q => ∃ (G : Hp) (e : List S) (Qd : List AR → List S → Prop) (Xd : XD), Rel K c G H σ e ∧ t Xd e Qd ∧
  (∀ (as : List AR) (e' : List S) (vs : List V) (G' H' : Hp), Step K c σ G H e G' H' e' → RepAs K G' σ as vs → Qd as e' → Q vs H') ∧ KE K c W Xd σ G H e

structure DE (X : Cx) (c : C0) (W : WX) (e : Expr) (t : TDE) : Prop where
  pe : PE X e (liftE X.K c W t)
structure DT (X : Cx) (c : C0) (W : WX) (e : Expr) (t : TDT) : Prop where
  pt : PT X e (liftT X.K c W t)
structure DA (X : Cx) (c : C0) (W : WX) (es : List Expr) (t : TDA) : Prop where
  pa : PA X es (liftA X.K c W t)

theorem PE.imp {X : Cx} {e : Expr} {t t' : TE} (h : PE X e t) (i : ∀ σ H Q, t' σ H Q → t σ H Q) : PE X e t' := ⟨fun pins s σ H Q I q => h.run pins s σ H Q I (i σ H Q q)⟩
theorem PT.imp {X : Cx} {e : Expr} {t t' : TT} (h : PT X e t) (i : ∀ σ H Q, t' σ H Q → t σ H Q) : PT X e t' := ⟨fun pins s σ H Q I q => h.run pins s σ H Q I (i σ H Q q)⟩
theorem PA.imp {X : Cx} {e : List Expr} {t t' : TA} (h : PA X e t) (i : ∀ σ H Q, t' σ H Q → t σ H Q) : PA X e t' := ⟨fun pos pins s σ H Q I q => h.run pos pins s σ H Q I (i σ H Q q)⟩

section
variable {K : PySem.W.Frag} {c : C0} {W : WX} {Xd : XD} {σ : St} {G H G1 H1 G2 H2 : Hp} {e e1 e2 : List S} {as : List AR} {vs : List V}
theorem KE.step (r : Rel K c G H σ e) (k : KE K c W Xd σ G H e) (st : Step K c σ G H e G1 H1 e1) : KE K c W Xd σ G1 H1 e1 := fun x e' cl dd G' H' s2 rx h => k x e' cl dd G' H' (st.trans r s2) (rx.back (none_back st.th)) h
theorem RepAs.mono (s : Same G G1) (h : RepAs K G σ as vs) : RepAs K G1 σ as vs := by
  induction h with
  | nil => exact .nil
  | @cons a v as vs h _ ih =>
    refine .cons ?_ ih
    cases a with
    | d x => exact RepD.mono s h
    | rf i => exact h
end

/-! ### names, constants -/
section
variable {X : Cx} {c : C0} {W : WX}
def dVar (i : Nat) : TDE := fun _ e Q => match e[i]? with
  | some (.d x) => Q (.d x) e
  | some .no => False
  | none => False
  | some _ => Q (.sl i) e
theorem dv (i : Nat) {x : Str} {pos : Pos} (hN : X.N[i]? = some x := by rfl) (hv : Vis X.env.scope x := by first | exact Or.inl rfl | exact Or.inr (Or.inl rfl) | exact Or.inr (Or.inr rfl)) (hd : (x == ("__debug__" : Str)) = false := by decide)
    (hcd : (x == ("__classdict__" : Str)) = false := by decide) : DE X c W (.Name x pos) (dVar i) := by
  refine ⟨PE.imp (pe_var hN hv hd hcd) fun σ H Q ⟨G, e, Qd, Xd, rel, h, hQ, hX⟩ => ?_⟩
  unfold dVar at h
  have ln := rel.len
  cases es : e[i]? with
  | none => rw [es] at h; exact h.elim
  | some s =>
    have sl := rel.sl i s es
    rw [es] at h
    cases s with
    | no => exact h.elim
    | d x =>
      obtain ⟨v, hv, k⟩ := sl
      cases q : σ[i]? with
      | none => rw [q] at hv; cases hv
      | some ov => rw [q] at hv; subst hv; exact ⟨v, q, hQ (.d x) e v G H (Step.refl rel) k h⟩
    | ol xs =>
      obtain ⟨a, vs, hv, k⟩ := sl
      cases q : σ[i]? with
      | none => rw [q] at hv; cases hv
      | some ov => rw [q] at hv; subst hv; exact ⟨.ref a, q, hQ (.sl i) e (.ref a) G H (Step.refl rel) q h⟩
    | od ks xs =>
      obtain ⟨a, vs, hv, k⟩ := sl
      cases q : σ[i]? with
      | none => rw [q] at hv; cases hv
      | some ov => rw [q] at hv; subst hv; exact ⟨.ref a, q, hQ (.sl i) e (.ref a) G H (Step.refl rel) q h⟩
    | well n =>
      obtain ⟨a, hv, k⟩ := sl
      cases q : σ[i]? with
      | none => rw [q] at hv; cases hv
      | some ov => rw [q] at hv; subst hv; exact ⟨.ref a, q, hQ (.sl i) e (.ref a) G H (Step.refl rel) q h⟩
    | wl n =>
      obtain ⟨a, _, hv, k⟩ := sl
      cases q : σ[i]? with
      | none => rw [q] at hv; cases hv
      | some ov => rw [q] at hv; subst hv; exact ⟨.ref a, q, hQ (.sl i) e (.ref a) G H (Step.refl rel) q h⟩
def dC (x : D) : TDE := fun _ e Q => Q (.d x) e
theorem de_const {e : Expr} {v : V} {x : D} (h : PE X e (tC v)) (r : ∀ G, RepD X.K G x v) : DE X c W e (dC x) := by
  refine ⟨PE.imp h fun σ H Q ⟨G, e, Qd, Xd, rel, h, hQ, hX⟩ => ?_⟩
  exact hQ (.d x) e v G H (Step.refl rel) (r G) h
theorem de_int {i : Int} {j pos} : DE X c W (.Constant (.int i) j pos) (dC (.int i)) := de_const pe_int fun _ => .int i
theorem de_bl {b : Bool} {j pos} : DE X c W (.Constant (.bool b) j pos) (dC (.bl b)) := de_const pe_bl fun _ => .bl b
theorem de_non {j pos} : DE X c W (.Constant .none j pos) (dC .non) := de_const pe_non fun _ => .non
theorem de_str {x : Str} {j pos} : DE X c W (.Constant (.str x) j pos) (dC (.str x)) := de_const pe_str fun _ => .str x
/-- a constant of the module -/
theorem de_glob {x : Str} {v : V} {u : Value} {d : D} {pos : Pos} (hg : Gl X x) (hm : X.mg x = some u) (r : RelV v u) (rd : ∀ G, RepD X.K G d v) (hd : (x == ("__debug__" : Str)) = false := by decide) : DE X c W (.Name x pos) (dC d) :=
  de_const (pe_glob hg hm r hd) rd
end

/-! ### two parts, one behind the other -/
section
variable {K : PySem.W.Frag} {c : C0} {W : WX} {ta tb tc : TDE} {σ : St} {H : Hp} {Q : VK}
/-- what an operation does with data -/
abbrev R3 := D → D → (R → Prop) → Prop
def Op3 (K : PySem.W.Frag) (r : R2) (r3 : R3) : Prop := ∀ (G H : Hp) (d1 d2 : D) (x y : V) (Qr : R → Prop) (Q : VK), Same G H → DV K G H d1 x → DV K G H d2 y → r3 d1 d2 Qr →
  (∀ ρ v G' H', Out K G H ρ v G' H' → Qr ρ → Q v H') → r x y H Q
def dBin (r3 : R3) (ta tb : TDE) : TDE := fun Xd e Q => ta Xd e fun ρ1 e1 => tb Xd e1 fun ρ2 e2 => ∃ d1 d2, see e2 ρ1 = some d1 ∧ see e2 ρ2 = some d2 ∧ r3 d1 d2 fun ρ => Q ρ e2
theorem lift_bin {r : R2} {r3 : R3} (ho : Op3 K r r3) (h : liftE K c W (dBin r3 ta tb) σ H Q) : tOp r (liftE K c W ta) (liftE K c W tb) σ H Q := by
  obtain ⟨G, e, Qd, Xd, rel, h, hQ, hX⟩ := h
  refine ⟨G, e, _, Xd, rel, h, fun ρ1 e1 v1 G1 H1 st1 r1 h1 => ?_, hX⟩
  refine ⟨G1, e1, _, Xd, st1.rel, h1, fun ρ2 e2 v2 G2 H2 st2 r2 h2 => ?_, hX.step rel st1⟩
  obtain ⟨d1, d2, s1, s2, h2⟩ := h2
  have st := st1.trans rel st2
  refine ho G2 H2 d1 d2 v1 v2 _ Q st.rel.gh ((r1.step st2).see st.rel s1) (r2.see st.rel s2) h2 fun ρ v G' H' o q => ?_
  obtain ⟨st3, r3⟩ := o.step st.rel
  exact hQ ρ e2 v G' H' (st.trans rel st3) (r3.back st) q
/-- one part -/
abbrev R31 := D → (R → Prop) → Prop
def Un3 (K : PySem.W.Frag) (r : V → Hp → VK → Prop) (r3 : R31) : Prop := ∀ (G H : Hp) (d1 : D) (x : V) (Qr : R → Prop) (Q : VK), Same G H → DV K G H d1 x → r3 d1 Qr →
  (∀ ρ v G' H', Out K G H ρ v G' H' → Qr ρ → Q v H') → r x H Q
def dUn (r3 : R31) (ta : TDE) : TDE := fun Xd e Q => ta Xd e fun ρ1 e1 => ∃ d1, see e1 ρ1 = some d1 ∧ r3 d1 fun ρ => Q ρ e1
theorem lift_un {r : V → Hp → VK → Prop} {r3 : R31} (ho : Un3 K r r3) (h : liftE K c W (dUn r3 ta) σ H Q) : liftE K c W ta σ H (fun x H1 => r x H1 Q) := by
  obtain ⟨G, e, Qd, Xd, rel, h, hQ, hX⟩ := h
  refine ⟨G, e, _, Xd, rel, h, fun ρ1 e1 v1 G1 H1 st1 r1 h1 => ?_, hX⟩
  obtain ⟨d1, s1, h1⟩ := h1
  refine ho G1 H1 d1 v1 _ Q st1.rel.gh (r1.see st1.rel s1) h1 fun ρ v G' H' o q => ?_
  obtain ⟨st3, r3⟩ := o.step st1.rel
  exact hQ ρ e1 v G' H' (st1.trans rel st3) (r3.back st1) q
end

/-! ### DV opened -/
section
variable {K : PySem.W.Frag} {G H : Hp} {v : V}
theorem DV.non (h : DV K G H .non v) : v = .non := by
  rcases h with h | ⟨_, _, _, h, _⟩ | ⟨_, _, _, _, h, _⟩
  · cases h; rfl
  · cases h
  · cases h
theorem DV.bl {b : Bool} (h : DV K G H (.bl b) v) : v = .bl b := by
  rcases h with h | ⟨_, _, _, h, _⟩ | ⟨_, _, _, _, h, _⟩
  · cases h; rfl
  · cases h
  · cases h
theorem DV.int {i : Int} (h : DV K G H (.int i) v) : v = .int i := by
  rcases h with h | ⟨_, _, _, h, _⟩ | ⟨_, _, _, _, h, _⟩
  · cases h; rfl
  · cases h
  · cases h
theorem DV.str {x : Str} (h : DV K G H (.str x) v) : v = .str x := by
  rcases h with h | ⟨_, _, _, h, _⟩ | ⟨_, _, _, _, h, _⟩
  · cases h; rfl
  · cases h
  · cases h
theorem DV.tup {xs : List D} (h : DV K G H (.tup xs) v) (s : Same G H) : ∃ a vs, v = .ref a ∧ SqT K H a vs ∧ RepDs K G xs vs := by
  rcases h with h | ⟨_, _, _, h, _⟩ | ⟨_, _, _, _, h, _⟩
  · cases h with
    | tup h1 h2 => exact ⟨_, _, rfl, Same.seqT s h1, h2⟩
  · cases h
  · cases h
theorem DV.lst {xs : List D} (h : DV K G H (.lst xs) v) (s : Same G H) : ∃ a vs, v = .ref a ∧ H a = some (.lst vs) ∧ RepDs K G xs vs := by
  rcases h with h | ⟨a, vs, ys, h, h1, h2, h3⟩ | ⟨_, _, _, _, h, _⟩
  · cases h with
    | lst h1 h2 => exact ⟨_, _, rfl, s _ _ h1, h2⟩
  · cases h; exact ⟨a, vs, h1, h2, h3⟩
  · cases h
theorem DV.scr {xs : List D} (h : DV K G H (scrD xs) v) (s : Same G H) : ∃ a vs, v = .ref a ∧ SqL K H a vs ∧ RepDs K G xs vs := by
  rcases h with h | ⟨_, _, _, h, _⟩ | ⟨_, _, _, _, h, _⟩
  · unfold scrD at h
    cases h with
    | ins hn h1 h2 h3 => exact absurd hn (by decide)
    | scr h1 h2 => exact ⟨_, _, rfl, Same.seqL s h1, h2⟩
  · cases h
  · cases h
theorem DV.dct {ks : List Key} {xs : List D} (h : DV K G H (.dct ks xs) v) (s : Same G H) : ∃ a vs, v = .ref a ∧ H a = some (.dK (ks.zip vs)) ∧ ks.length = vs.length ∧ RepDs K G xs vs := by
  rcases h with h | ⟨_, _, _, h, _⟩ | ⟨a, ks', vs, ys, h, h1, h2, h3, h4⟩
  · cases h with
    | dct h1 h2 h3 => exact ⟨_, _, rfl, s _ _ h1, h2, h3⟩
  · cases h
  · cases h; exact ⟨a, vs, h1, h2, h3, h4⟩
end

/-! ### tests, and, or, not, if else -/
section
variable {X : Cx} {c : C0} {W : WX} {a b e : Expr} {ta tb t : TDE} {tA tB' : TDT} {rest : List Expr} {pos : Pos}
def dB (t : TDE) : TDT := fun Xd e Q => t Xd e fun ρ e1 => ∃ b, see e1 ρ = some (.bl b) ∧ Q b e1
/-- an expression whose value is a bool -/
theorem dt_val (h : DE X c W e t) (he : ∀ whole, isTrue e X.env whole = (do let v ← whole; standAt e.pos; holding [v] (truthy v)) := by intro _; rfl) : DT X c W e (dB t) := by
  refine ⟨PT.imp (pt_val h.pe he) fun σ H Q ⟨G, e, Qd, Xd, rel, h, hQ, hX⟩ => ?_⟩
  refine ⟨G, e, _, Xd, rel, h, fun ρ1 e1 v1 G1 H1 st1 r1 h1 => ?_, hX⟩
  obtain ⟨b, s1, h1⟩ := h1
  exact ⟨b, (r1.see st1.rel s1).bl, hQ b e1 G1 H1 st1 h1⟩
def dNot (t : TDT) : TDT := fun Xd e Q => t Xd e fun b e1 => Q (!b) e1
theorem dt_not (h : DT X c W a tA) : DT X c W (.UnaryOp .Not a pos) (dNot tA) := by
  refine ⟨PT.imp (pt_not h.pt) fun σ H Q ⟨G, e, Qd, Xd, rel, h, hQ, hX⟩ => ?_⟩
  exact ⟨G, e, _, Xd, rel, h, fun b e1 G1 H1 st1 h1 => hQ _ e1 G1 H1 st1 h1, hX⟩
structure DW (X : Cx) (c : C0) (W : WX) (e : Expr) (t : TDT) : Prop where
  pw : PW X e (liftT X.K c W t)
theorem PW.imp {X : Cx} {e : Expr} {t t' : TT} (h : PW X e t) (i : ∀ σ H Q, t' σ H Q → t σ H Q) : PW X e t' := ⟨fun wh pins s σ H Q I q => h.run wh pins s σ H Q I (i σ H Q q)⟩
def dAnd (t u : TDT) : TDT := fun Xd e Q => t Xd e fun b e1 => if b = true then u Xd e1 Q else Q false e1
def dOr (t u : TDT) : TDT := fun Xd e Q => t Xd e fun b e1 => if b = true then Q true e1 else u Xd e1 Q
theorem dw_and1 (h : DT X c W a tA) : DW X c W (.BoolOp .And [a] pos) tA := ⟨pw_and1 h.pt⟩
theorem dw_or1 (h : DT X c W a tA) : DW X c W (.BoolOp .Or [a] pos) tA := ⟨pw_or1 h.pt⟩
theorem dw_and (ha : DT X c W a tA) (hb : DW X c W (.BoolOp .And (b :: rest) pos) tB') : DW X c W (.BoolOp .And (a :: b :: rest) pos) (dAnd tA tB') := by
  refine ⟨PW.imp (pw_and ha.pt hb.pw) fun σ H Q ⟨G, e, Qd, Xd, rel, h, hQ, hX⟩ => ?_⟩
  refine ⟨G, e, _, Xd, rel, h, fun b e1 G1 H1 st1 h1 => ?_, hX⟩
  cases b with
  | true => exact ⟨G1, e1, _, Xd, st1.rel, h1, fun b e2 G2 H2 st2 h2 => hQ b e2 G2 H2 (st1.trans rel st2) h2, hX.step rel st1⟩
  | false => exact hQ false e1 G1 H1 st1 h1
theorem dw_or (ha : DT X c W a tA) (hb : DW X c W (.BoolOp .Or (b :: rest) pos) tB') : DW X c W (.BoolOp .Or (a :: b :: rest) pos) (dOr tA tB') := by
  refine ⟨PW.imp (pw_or ha.pt hb.pw) fun σ H Q ⟨G, e, Qd, Xd, rel, h, hQ, hX⟩ => ?_⟩
  refine ⟨G, e, _, Xd, rel, h, fun b e1 G1 H1 st1 h1 => ?_, hX⟩
  cases b with
  | true => exact hQ true e1 G1 H1 st1 h1
  | false => exact ⟨G1, e1, _, Xd, st1.rel, h1, fun b e2 G2 H2 st2 h2 => hQ b e2 G2 H2 (st1.trans rel st2) h2, hX.step rel st1⟩
theorem dt_bool {e : Expr} (h : DW X c W e tA) : DT X c W e tA := ⟨h.pw.pt⟩
/-- .. as values, bools -/
def dAndV (ta tb : TDE) : TDE := fun Xd e Q => ta Xd e fun ρ e1 => ∃ b, see e1 ρ = some (.bl b) ∧ if b = true then tb Xd e1 Q else Q (.d (.bl false)) e1
def dOrV (ta tb : TDE) : TDE := fun Xd e Q => ta Xd e fun ρ e1 => ∃ b, see e1 ρ = some (.bl b) ∧ if b = true then Q (.d (.bl true)) e1 else tb Xd e1 Q
def dNotV (t : TDT) : TDE := fun Xd e Q => t Xd e fun b e1 => Q (.d (.bl (!b))) e1
theorem de_one {op} (h : DE X c W a t) : DE X c W (.BoolOp op [a] pos) t := ⟨pe_one h.pe⟩
theorem de_and (ha : DE X c W a ta) (hb : DE X c W (.BoolOp .And (b :: rest) pos) tb) : DE X c W (.BoolOp .And (a :: b :: rest) pos) (dAndV ta tb) := by
  refine ⟨PE.imp (pe_and ha.pe hb.pe) fun σ H Q ⟨G, e, Qd, Xd, rel, h, hQ, hX⟩ => ?_⟩
  refine ⟨G, e, _, Xd, rel, h, fun ρ1 e1 v1 G1 H1 st1 r1 h1 => ?_, hX⟩
  obtain ⟨b, s1, h1⟩ := h1
  refine ⟨b, (r1.see st1.rel s1).bl, ?_⟩
  cases b with
  | true => exact ⟨G1, e1, _, Xd, st1.rel, h1, fun ρ e2 v G2 H2 st2 r2 h2 => hQ ρ e2 v G2 H2 (st1.trans rel st2) (r2.back st1) h2, hX.step rel st1⟩
  | false => exact hQ (.d (.bl false)) e1 _ G1 H1 st1 (RepD.bl false) h1
theorem de_or (ha : DE X c W a ta) (hb : DE X c W (.BoolOp .Or (b :: rest) pos) tb) : DE X c W (.BoolOp .Or (a :: b :: rest) pos) (dOrV ta tb) := by
  refine ⟨PE.imp (pe_or ha.pe hb.pe) fun σ H Q ⟨G, e, Qd, Xd, rel, h, hQ, hX⟩ => ?_⟩
  refine ⟨G, e, _, Xd, rel, h, fun ρ1 e1 v1 G1 H1 st1 r1 h1 => ?_, hX⟩
  obtain ⟨b, s1, h1⟩ := h1
  refine ⟨b, (r1.see st1.rel s1).bl, ?_⟩
  cases b with
  | true => exact hQ (.d (.bl true)) e1 _ G1 H1 st1 (RepD.bl true) h1
  | false => exact ⟨G1, e1, _, Xd, st1.rel, h1, fun ρ e2 v G2 H2 st2 r2 h2 => hQ ρ e2 v G2 H2 (st1.trans rel st2) (r2.back st1) h2, hX.step rel st1⟩
theorem de_notB (h : DE X c W a t) : DE X c W (.UnaryOp .Not a pos) (dNotV (dB t)) := by
  refine ⟨PE.imp (pe_not h.pe) fun σ H Q ⟨G, e, Qd, Xd, rel, h, hQ, hX⟩ => ?_⟩
  refine ⟨G, e, _, Xd, rel, h, fun ρ1 e1 v1 G1 H1 st1 r1 h1 => ?_, hX⟩
  obtain ⟨b, s1, h1⟩ := h1
  exact ⟨b, (r1.see st1.rel s1).bl, hQ (.d (.bl (!b))) e1 _ G1 H1 st1 (RepD.bl _) h1⟩
def dIf (t : TDT) (ta tb : TDE) : TDE := fun Xd e Q => t Xd e fun b e1 => if b = true then ta Xd e1 Q else tb Xd e1 Q
theorem de_if {cx : Expr} (hc : DT X c W cx tA) (ha : DE X c W a ta) (hb : DE X c W b tb) : DE X c W (.IfExp cx a b pos) (dIf tA ta tb) := by
  refine ⟨PE.imp (pe_ifExp hc.pt ha.pe hb.pe) fun σ H Q ⟨G, e, Qd, Xd, rel, h, hQ, hX⟩ => ?_⟩
  refine ⟨G, e, _, Xd, rel, h, fun b e1 G1 H1 st1 h1 => ?_, hX⟩
  cases b with
  | true => exact ⟨G1, e1, _, Xd, st1.rel, h1, fun ρ e2 v G2 H2 st2 r2 h2 => hQ ρ e2 v G2 H2 (st1.trans rel st2) (r2.back st1) h2, hX.step rel st1⟩
  | false => exact ⟨G1, e1, _, Xd, st1.rel, h1, fun ρ e2 v G2 H2 st2 r2 h2 => hQ ρ e2 v G2 H2 (st1.trans rel st2) (r2.back st1) h2, hX.step rel st1⟩
end

/-! ### operators, comparisons, subscripts -/
section
variable {X : Cx} {c : C0} {W : WX} {a b : Expr} {ta tb : TDE} {pos : Pos} {r : R2} {r3 : R3}
theorem de_op {op : Operator} (ho : OpR X (binaryOp op) r) (h3 : Op3 X.K r r3) (ha : DE X c W a ta) (hb : DE X c W b tb) : DE X c W (.BinOp a op b pos) (dBin r3 ta tb) :=
  ⟨PE.imp (pe_op ho ha.pe hb.pe) fun σ H Q h => lift_bin h3 h⟩
theorem de_cmp {op : CmpOp} (ho : OpR X (compareOp op) r) (h3 : Op3 X.K r r3) (ha : DE X c W a ta) (hb : DE X c W b tb) (hm : behindInMarks op b = false := by first | exact nomark _ | rfl) : DE X c W (.Compare a [op] [b] pos) (dBin r3 ta tb) :=
  ⟨PE.imp (pe_cmpR ho ha.pe hb.pe hm) fun σ H Q h => lift_bin h3 h⟩
theorem dt_cmp {op : CmpOp} (ho : OpR X (compareOp op) r) (h3 : Op3 X.K r r3) (ha : DE X c W a ta) (hb : DE X c W b tb) (hm : behindInMarks op b = false := by first | exact nomark _ | rfl) : DT X c W (.Compare a [op] [b] pos) (dB (dBin r3 ta tb)) := by
  refine ⟨PT.imp (pt_cmpR ho ha.pe hb.pe hm) fun σ H Q ⟨G, e, Qd, Xd, rel, h, hQ, hX⟩ => ?_⟩
  refine lift_bin h3 ⟨G, e, _, Xd, rel, h, fun ρ1 e1 v1 G1 H1 st1 r1 h1 => ?_, hX⟩
  obtain ⟨b, s1, h1⟩ := h1
  exact ⟨b, (r1.see st1.rel s1).bl, hQ b e1 G1 H1 st1 h1⟩
theorem de_ix (hr : IxR X r) (h3 : Op3 X.K r r3) (ha : DE X c W a ta) (hb : DE X c W b tb) (hs : PlainIx b := by exact fun _ _ => rfl) : DE X c W (.Subscript a b pos) (dBin r3 ta tb) :=
  ⟨PE.imp (pe_ix hr ha.pe hb.pe hs) fun σ H Q h => lift_bin h3 h⟩
end

/-! ### displays, argument lists -/
section
variable {X : Cx} {c : C0} {W : WX} {e : Expr} {es : List Expr} {te : TDE} {t : TDA} {pos : Pos}
def dNil : TDA := fun _ e Q => Q [] e
def dCons (te : TDE) (t : TDA) : TDA := fun Xd e Q => te Xd e fun ρ e1 => ∃ d, see e1 ρ = some d ∧ t Xd (fz e1 ρ) fun as e2 => Q (.d d :: as) e2
/-- an own thing by reference -/
def dRef (i : Nat) (t : TDA) : TDA := fun Xd e Q => (∃ s, e[i]? = some s ∧ s.fixd = true) ∧ t Xd e fun as e2 => Q (.rf i :: as) e2
theorem da_nil : DA X c W [] dNil := ⟨PA.imp pa_nil fun σ H Q ⟨G, e, Qd, Xd, rel, h, hQ, hX⟩ => hQ [] e [] G H (Step.refl rel) .nil h⟩
theorem da_cons (ha : DE X c W e te) (hr : DA X c W es t) (hs : starEach (e :: es) X.env = (false, eval e X.env) :: starEach es X.env := by rfl) : DA X c W (e :: es) (dCons te t) := by
  refine ⟨PA.imp (pa_cons ha.pe hr.pa hs) fun σ H Q ⟨G, e, Qd, Xd, rel, h, hQ, hX⟩ => ?_⟩
  refine ⟨G, e, _, Xd, rel, h, fun ρ1 e1 v1 G1 H1 st1 r1 h1 => ?_, hX⟩
  obtain ⟨d, s1, h1⟩ := h1
  obtain ⟨G1', st1', rd, _⟩ := Step.asD rel st1 r1 s1
  refine ⟨G1', _, _, Xd, st1'.rel, h1, fun as e2 vs G2 H2 st2 r2 h2 => ?_, hX.step rel st1'⟩
  exact hQ _ e2 _ G2 H2 (st1'.trans rel st2) (.cons (show RepA X.K G2 σ (.d d) v1 from RepD.mono st2.sg rd) r2) h2
theorem da_ref (i : Nat) {x : Str} {p : Pos} (hr : DA X c W es t) (hN : X.N[i]? = some x := by rfl) (hv : Vis X.env.scope x := by first | exact Or.inl rfl | exact Or.inr (Or.inl rfl) | exact Or.inr (Or.inr rfl)) (hd : (x == ("__debug__" : Str)) = false := by decide)
    (hcd : (x == ("__classdict__" : Str)) = false := by decide) (hs : starEach (.Name x p :: es) X.env = (false, eval (.Name x p) X.env) :: starEach es X.env := by rfl) : DA X c W (.Name x p :: es) (dRef i t) := by
  refine ⟨PA.imp (pa_cons (pe_var hN hv hd hcd) hr.pa hs) fun σ H Q ⟨G, e, Qd, Xd, rel, ⟨⟨s, hs, hf⟩, h⟩, hQ, hX⟩ => ?_⟩
  have sl := rel.sl i s hs
  obtain ⟨v, hv⟩ : ∃ v, σ[i]? = some (some v) := by
    cases s with
    | well n =>
      obtain ⟨a, hv, _⟩ := sl
      cases q : σ[i]? with
      | none => rw [q] at hv; cases hv
      | some ov => rw [q] at hv; subst hv; exact ⟨_, rfl⟩
    | wl n =>
      obtain ⟨a, _, hv, _⟩ := sl
      cases q : σ[i]? with
      | none => rw [q] at hv; cases hv
      | some ov => rw [q] at hv; subst hv; exact ⟨_, rfl⟩
    | no => cases hf
    | d _ => cases hf
    | ol _ => cases hf
    | od _ _ => cases hf
  exact ⟨v, hv, G, e, _, Xd, rel, h, fun as e2 vs G2 H2 st2 r2 h2 => hQ _ e2 _ G2 H2 st2 (.cons (show RepA X.K G2 σ (.rf i) v from hv) r2) h2, hX⟩
/-- data alone -/
def dats : List AR → Option (List D)
  | [] => some []
  | .d x :: r => (dats r).map (x :: ·)
  | .rf _ :: _ => none
theorem dats_rep {K : PySem.W.Frag} {G : Hp} {σ : St} : ∀ {as : List AR} {vs : List V} {ds : List D}, RepAs K G σ as vs → dats as = some ds → RepDs K G ds vs
  | _, _, _, .nil, e => by cases e; exact .nil
  | .d x :: r, _, ds, .cons h q, e => by
    simp only [dats, Option.map_eq_some_iff] at e
    obtain ⟨es, e1, rfl⟩ := e
    exact .cons h (dats_rep q e1)
  | .rf _ :: _, _, _, .cons _ _, e => by cases e
def dTup (t : TDA) : TDE := fun Xd e Q => t Xd e fun as e1 => ∃ ds, dats as = some ds ∧ ds.length ≤ 1000000 ∧ Q (.d (.tup ds)) e1
def dLst (t : TDA) : TDE := fun Xd e Q => t Xd e fun as e1 => ∃ ds, dats as = some ds ∧ ds.length ≤ 1000000 ∧ Q (.tl ds) e1
theorem mil : 1000000 ≤ sizeLine := by rw [sizeLine_eq]; decide
theorem de_tup {x1} (h : DA X c W es t) : DE X c W (.Tuple es x1 pos) (dTup t) := by
  refine ⟨PE.imp (pe_tup h.pa) fun σ H Q ⟨G, e, Qd, Xd, rel, h, hQ, hX⟩ => ?_⟩
  refine ⟨G, e, _, Xd, rel, h, fun as e1 vs G1 H1 st1 r1 h1 => ?_, hX⟩
  obtain ⟨ds, hd, hl, h1⟩ := h1
  have rd := dats_rep r1 hd
  refine ⟨by rw [← rd.length]; exact Nat.le_trans hl mil, fun p hp => ?_⟩
  obtain ⟨st2, r2⟩ := (Out.nt hp rd).step st1.rel
  exact hQ _ e1 _ _ _ (st1.trans rel st2) (r2.back st1) h1
theorem de_lst (h : DA X c W es t) : DE X c W (.List es pos) (dLst t) := by
  refine ⟨PE.imp (pe_lst h.pa) fun σ H Q ⟨G, e, Qd, Xd, rel, h, hQ, hX⟩ => ?_⟩
  refine ⟨G, e, _, Xd, rel, h, fun as e1 vs G1 H1 st1 r1 h1 => ?_, hX⟩
  obtain ⟨ds, hd, hl, h1⟩ := h1
  have rd := dats_rep r1 hd
  refine ⟨by rw [← rd.length]; exact Nat.le_trans hl mil, fun p hp => ?_⟩
  obtain ⟨st2, r2⟩ := (Out.nl hp rd).step st1.rel
  exact hQ _ e1 _ _ _ (st1.trans rel st2) (r2.back st1) h1
end
end L3

/-! L3: == and != of data -/
namespace PySem.SeqAt
open AutoSeq1 (wpAny_loadPart')
open MeetsSeq PyProof.Rows
section
variable (l : Addr) (es : Array DictEntry) (n : Nat) (dd : Option Addr) (sl : Array (Option Value))
abbrev dObj : Obj := { cls := .type "dict", dict := dd, data := .dict es n, slots := sl }
theorem l3_dict_eq_none : Meets (Builtin.«dict.__eq__» ⟨[.ref l, .none], []⟩) (fun _ R s => s.heap.get? l = some (dObj es n dd sl) ∧ R (.ok (.ret .notImplemented)) s) :=
  .of_wp fun prog w A R s h => by obtain ⟨hp, g, d, tk, os⟩ := s; obtain ⟨hl, h⟩ := h; have f1 := F.sub_NoneType_dict; wp_walk using wpAny_loadPart' hl, wpAny_load hl; exact ⟨_, rfl, h⟩
theorem l3_dict_eq_bool (b : Bool) : Meets (Builtin.«dict.__eq__» ⟨[.ref l, .bool b], []⟩) (fun _ R s => s.heap.get? l = some (dObj es n dd sl) ∧ R (.ok (.ret .notImplemented)) s) :=
  .of_wp fun prog w A R s h => by obtain ⟨hp, g, d, tk, os⟩ := s; obtain ⟨hl, h⟩ := h; have f1 := F.sub_bool_dict; wp_walk using wpAny_loadPart' hl, wpAny_load hl; exact ⟨_, rfl, h⟩
theorem l3_dict_eq_int (b : Int) (u : Tok) : Meets (Builtin.«dict.__eq__» ⟨[.ref l, .int b u], []⟩) (fun _ R s => s.heap.get? l = some (dObj es n dd sl) ∧ R (.ok (.ret .notImplemented)) s) :=
  .of_wp fun prog w A R s h => by obtain ⟨hp, g, d, tk, os⟩ := s; obtain ⟨hl, h⟩ := h; have f1 := F.sub_int_dict; wp_walk using wpAny_loadPart' hl, wpAny_load hl; exact ⟨_, rfl, h⟩
theorem l3_dict_eq_str (b : Str) (u : Tok) : Meets (Builtin.«dict.__eq__» ⟨[.ref l, .str b u], []⟩) (fun _ R s => s.heap.get? l = some (dObj es n dd sl) ∧ R (.ok (.ret .notImplemented)) s) :=
  .of_wp fun prog w A R s h => by obtain ⟨hp, g, d, tk, os⟩ := s; obtain ⟨hl, h⟩ := h; have f1 := F.sub_str_dict; wp_walk using wpAny_loadPart' hl, wpAny_load hl; exact ⟨_, rfl, h⟩
theorem l3_str_eq_dict (b : Str) (u : Tok) : Meets (Builtin.«str.__eq__» ⟨[.str b u, .ref l], []⟩) (fun _ R s => s.heap.get? l = some (dObj es n dd sl) ∧ R (.ok (.ret .notImplemented)) s) :=
  .of_wp fun prog w A R s h => by obtain ⟨hp, g, d, tk, os⟩ := s; obtain ⟨hl, h⟩ := h; wp_walk using wpAny_loadPart' hl, wpAny_load hl; exact ⟨_, rfl, h⟩
theorem l3_int_eq_dict (b : Int) (u : Tok) : Meets (Builtin.«int.__eq__» ⟨[.int b u, .ref l], []⟩) (fun _ R s => s.heap.get? l = some (dObj es n dd sl) ∧ R (.ok (.ret .notImplemented)) s) :=
  .of_wp fun prog w A R s h => by obtain ⟨hp, g, d, tk, os⟩ := s; obtain ⟨hl, h⟩ := h; wp_walk using wpAny_loadPart' hl, wpAny_load hl; exact ⟨_, rfl, h⟩
theorem l3_bool_eq_dict (b : Bool) : Meets (Builtin.«int.__eq__» ⟨[.bool b, .ref l], []⟩) (fun _ R s => s.heap.get? l = some (dObj es n dd sl) ∧ R (.ok (.ret .notImplemented)) s) :=
  .of_wp fun prog w A R s h => by obtain ⟨hp, g, d, tk, os⟩ := s; obtain ⟨hl, h⟩ := h; wp_walk using wpAny_loadPart' hl, wpAny_load hl; exact ⟨_, rfl, h⟩
theorem l3_dict_eq_list (b : Addr) (items : Array Value) (n2 : Nat) (dd2 : Option Addr) (sl2 : Array (Option Value)) : Meets (Builtin.«dict.__eq__» ⟨[.ref l, .ref b], []⟩) (fun _ R s => s.heap.get? l = some (dObj es n dd sl) ∧ s.heap.get? b = some { cls := .type "list", dict := dd2, data := .seq items n2, slots := sl2 } ∧ R (.ok (.ret .notImplemented)) s) :=
  .of_wp fun prog w A R s h => by obtain ⟨hp, g, d, tk, os⟩ := s; obtain ⟨hl, hb, h⟩ := h; have f1 := F.sub_list_dict; wp_walk using wpAny_loadPart' hl, wpAny_load hl, wpAny_loadPart' hb, wpAny_load hb; exact ⟨_, rfl, h⟩
theorem l3_dict_eq_tuple (b : Addr) (items : Array Value) (n2 : Nat) (dd2 : Option Addr) (sl2 : Array (Option Value)) : Meets (Builtin.«dict.__eq__» ⟨[.ref l, .ref b], []⟩) (fun _ R s => s.heap.get? l = some (dObj es n dd sl) ∧ s.heap.get? b = some { cls := .type "tuple", dict := dd2, data := .seq items n2, slots := sl2 } ∧ R (.ok (.ret .notImplemented)) s) :=
  .of_wp fun prog w A R s h => by obtain ⟨hp, g, d, tk, os⟩ := s; obtain ⟨hl, hb, h⟩ := h; have f1 := F.sub_tuple_dict; wp_walk using wpAny_loadPart' hl, wpAny_load hl, wpAny_loadPart' hb, wpAny_load hb; exact ⟨_, rfl, h⟩
theorem l3_list_eq_dict (b : Addr) (items : Array Value) (n2 : Nat) (dd2 : Option Addr) (sl2 : Array (Option Value)) : Meets (Builtin.«list.__eq__» ⟨[.ref b, .ref l], []⟩) (fun _ R s => s.heap.get? l = some (dObj es n dd sl) ∧ s.heap.get? b = some { cls := .type "list", dict := dd2, data := .seq items n2, slots := sl2 } ∧ R (.ok (.ret .notImplemented)) s) :=
  .of_wp fun prog w A R s h => by obtain ⟨hp, g, d, tk, os⟩ := s; obtain ⟨hl, hb, h⟩ := h; have f1 := F.sub_dict_list; wp_walk using wpAny_loadPart' hl, wpAny_load hl, wpAny_loadPart' hb, wpAny_load hb; exact ⟨_, rfl, h⟩
theorem l3_tuple_eq_dict (b : Addr) (items : Array Value) (n2 : Nat) (dd2 : Option Addr) (sl2 : Array (Option Value)) : Meets (Builtin.«tuple.__eq__» ⟨[.ref b, .ref l], []⟩) (fun _ R s => s.heap.get? l = some (dObj es n dd sl) ∧ s.heap.get? b = some { cls := .type "tuple", dict := dd2, data := .seq items n2, slots := sl2 } ∧ R (.ok (.ret .notImplemented)) s) :=
  .of_wp fun prog w A R s h => by obtain ⟨hp, g, d, tk, os⟩ := s; obtain ⟨hl, hb, h⟩ := h; have f1 := F.sub_dict_tuple; wp_walk using wpAny_loadPart' hl, wpAny_load hl, wpAny_loadPart' hb, wpAny_load hb; exact ⟨_, rfl, h⟩
end
section
variable {A : Around} {s : Shared} {l : Addr} {es : Array DictEntry} {n : Nat} {dd : Option Addr} {sl : Array (Option Value)}
theorem l3_eqAt_of_rc {a b : Value} {k : Bool} (hne : (a == b) = false) (hf : ∀ x t, a ≠ .float x t) (h : RcAt A s a b k) : EqAt A s a b k := fun prog w E Q hq => by
  unfold eqBool
  refine wpAny_holding ?_
  refine wpAny_ite_split (fun hab => absurd hab (by rw [hne]; decide)) (fun _ => ?_)
  cases a <;> first | exact absurd rfl (hf _ _) | exact wpAny_bind (h prog w E _ (wpAny_truthy_bool hq))
theorem l3_ne1 : Value.type "dict" ≠ Value.type "list" := by decide
theorem l3_ne2 : Value.type "dict" ≠ Value.type "tuple" := by decide
theorem l3_ne3 : Value.type "list" ≠ Value.type "tuple" := by decide
theorem l3_rc_dict_none (hl : s.heap.get? l = some (dObj es n dd sl)) (hu : A.units < cLine) : RcAt A s (.ref l) .none false := fun prog w E Q h =>
  rc_eq_decline_or (k := false) ⟨_, hl, rfl⟩ rfl (by decide) F.sub_NoneType_dict F.slot_dict_eq F.slot_NoneType_eq_refl
    (fun _ hq => call_meets F.slot_dict_eq ⟨_, hl, rfl⟩ F.entry_dict_eq (F.args_dict_eq_2 _ _) (l3_dict_eq_none l es n dd sl) ⟨hl, hq⟩)
    (fun _ hq => call_gives F.slot_NoneType_eq_refl rfl F.entry_NoneType_eq (F.args_NoneType_eq_2 _ _) (NoneType___eq___none_ref_0 l) hq)
    (fun _ hq => wpAny_of_eq (rfl : isSame (.ref l) .none = pure false) hq) (.inr hu) h
theorem l3_rc_none_dict (hl : s.heap.get? l = some (dObj es n dd sl)) (hu : A.units < cLine) : RcAt A s .none (.ref l) false := fun prog w E Q h =>
  rc_eq_decline_or (k := false) rfl ⟨_, hl, rfl⟩ (by decide) F.sub_dict_NoneType F.slot_NoneType_eq F.slot_dict_eq_refl
    (fun _ hq => call_gives F.slot_NoneType_eq rfl F.entry_NoneType_eq (F.args_NoneType_eq_2 _ _) (NoneType___eq___none_ref_0 l) hq)
    (fun _ hq => call_meets F.slot_dict_eq_refl ⟨_, hl, rfl⟩ F.entry_dict_eq (F.args_dict_eq_2 _ _) (l3_dict_eq_none l es n dd sl) ⟨hl, hq⟩)
    (fun _ hq => wpAny_of_eq (rfl : isSame .none (.ref l) = pure false) hq) (.inr hu) h
theorem l3_rc_dict_bool (b : Bool) (hl : s.heap.get? l = some (dObj es n dd sl)) (hu : A.units < cLine) : RcAt A s (.ref l) (.bool b) false := fun prog w E Q h =>
  rc_eq_decline_or (k := false) ⟨_, hl, rfl⟩ rfl (by decide) F.sub_bool_dict F.slot_dict_eq F.slot_bool_eq_refl
    (fun _ hq => call_meets F.slot_dict_eq ⟨_, hl, rfl⟩ F.entry_dict_eq (F.args_dict_eq_2 _ _) (l3_dict_eq_bool l es n dd sl b) ⟨hl, hq⟩)
    (fun _ hq => call_meets F.slot_bool_eq_refl rfl F.entry_int_eq (F.args_int_eq_2 _ _) (l3_bool_eq_dict l es n dd sl b) ⟨hl, hq⟩)
    (fun _ hq => wpAny_of_eq (rfl : isSame (.ref l) (.bool b) = pure false) hq) (.inr hu) h
theorem l3_rc_bool_dict (b : Bool) (hl : s.heap.get? l = some (dObj es n dd sl)) (hu : A.units < cLine) : RcAt A s (.bool b) (.ref l) false := fun prog w E Q h =>
  rc_eq_decline_or (k := false) rfl ⟨_, hl, rfl⟩ (by decide) F.sub_dict_bool F.slot_bool_eq F.slot_dict_eq_refl
    (fun _ hq => call_meets F.slot_bool_eq rfl F.entry_int_eq (F.args_int_eq_2 _ _) (l3_bool_eq_dict l es n dd sl b) ⟨hl, hq⟩)
    (fun _ hq => call_meets F.slot_dict_eq_refl ⟨_, hl, rfl⟩ F.entry_dict_eq (F.args_dict_eq_2 _ _) (l3_dict_eq_bool l es n dd sl b) ⟨hl, hq⟩)
    (fun _ hq => wpAny_of_eq (rfl : isSame (.bool b) (.ref l) = pure false) hq) (.inr hu) h
theorem l3_rc_dict_int (b : Int) (u : Tok) (hl : s.heap.get? l = some (dObj es n dd sl)) (hu : A.units < cLine) : RcAt A s (.ref l) (.int b u) false := fun prog w E Q h =>
  rc_eq_decline_or (k := false) ⟨_, hl, rfl⟩ (typeIs_int s b u) (by decide) F.sub_int_dict F.slot_dict_eq F.slot_int_eq_refl
    (fun _ hq => call_meets F.slot_dict_eq ⟨_, hl, rfl⟩ F.entry_dict_eq (F.args_dict_eq_2 _ _) (l3_dict_eq_int l es n dd sl b u) ⟨hl, hq⟩)
    (fun _ hq => call_meets F.slot_int_eq_refl (typeIs_int s b u) F.entry_int_eq (F.args_int_eq_2 _ _) (l3_int_eq_dict l es n dd sl b u) ⟨hl, hq⟩)
    (fun _ hq => wpAny_of_eq (rfl : isSame (.ref l) (.int b u) = pure false) hq) (.inr hu) h
theorem l3_rc_int_dict (b : Int) (u : Tok) (hl : s.heap.get? l = some (dObj es n dd sl)) (hu : A.units < cLine) : RcAt A s (.int b u) (.ref l) false := fun prog w E Q h =>
  rc_eq_decline_or (k := false) (typeIs_int s b u) ⟨_, hl, rfl⟩ (by decide) F.sub_dict_int F.slot_int_eq F.slot_dict_eq_refl
    (fun _ hq => call_meets F.slot_int_eq (typeIs_int s b u) F.entry_int_eq (F.args_int_eq_2 _ _) (l3_int_eq_dict l es n dd sl b u) ⟨hl, hq⟩)
    (fun _ hq => call_meets F.slot_dict_eq_refl ⟨_, hl, rfl⟩ F.entry_dict_eq (F.args_dict_eq_2 _ _) (l3_dict_eq_int l es n dd sl b u) ⟨hl, hq⟩)
    (fun _ hq => wpAny_of_eq (rfl : isSame (.int b u) (.ref l) = pure false) hq) (.inr hu) h
theorem l3_rc_dict_str (b : Str) (u : Tok) (hl : s.heap.get? l = some (dObj es n dd sl)) (hu : A.units < cLine) : RcAt A s (.ref l) (.str b u) false := fun prog w E Q h =>
  rc_eq_decline_or (k := false) ⟨_, hl, rfl⟩ (typeIs_str s b u) (by decide) F.sub_str_dict F.slot_dict_eq F.slot_str_eq_refl
    (fun _ hq => call_meets F.slot_dict_eq ⟨_, hl, rfl⟩ F.entry_dict_eq (F.args_dict_eq_2 _ _) (l3_dict_eq_str l es n dd sl b u) ⟨hl, hq⟩)
    (fun _ hq => call_meets F.slot_str_eq_refl (typeIs_str s b u) F.entry_str_eq (F.args_str_eq_2 _ _) (l3_str_eq_dict l es n dd sl b u) ⟨hl, hq⟩)
    (fun _ hq => wpAny_of_eq (rfl : isSame (.ref l) (.str b u) = pure false) hq) (.inr hu) h
theorem l3_rc_str_dict (b : Str) (u : Tok) (hl : s.heap.get? l = some (dObj es n dd sl)) (hu : A.units < cLine) : RcAt A s (.str b u) (.ref l) false := fun prog w E Q h =>
  rc_eq_decline_or (k := false) (typeIs_str s b u) ⟨_, hl, rfl⟩ (by decide) F.sub_dict_str F.slot_str_eq F.slot_dict_eq_refl
    (fun _ hq => call_meets F.slot_str_eq (typeIs_str s b u) F.entry_str_eq (F.args_str_eq_2 _ _) (l3_str_eq_dict l es n dd sl b u) ⟨hl, hq⟩)
    (fun _ hq => call_meets F.slot_dict_eq_refl ⟨_, hl, rfl⟩ F.entry_dict_eq (F.args_dict_eq_2 _ _) (l3_dict_eq_str l es n dd sl b u) ⟨hl, hq⟩)
    (fun _ hq => wpAny_of_eq (rfl : isSame (.str b u) (.ref l) = pure false) hq) (.inr hu) h
variable {b : Addr} {items : Array Value}
theorem l3_rc_dict_list (hl : s.heap.get? l = some (dObj es n dd sl)) (hb : s.heap.IsList b items) (hu : A.units < cLine) : RcAt A s (.ref l) (.ref b) false := fun prog w E Q h => by
  obtain ⟨⟨cls, dd2, data, sl2⟩, ho, hc, n2, hd⟩ := id hb
  simp only at hc hd
  subst hc hd
  have hne : l ≠ b := fun z => by subst z; rw [hl] at ho; exact absurd (congrArg Obj.cls (Option.some.inj ho)) (by first | exact l3_ne1 | exact l3_ne2)
  exact rc_eq_decline_or (k := false) ⟨_, hl, rfl⟩ ⟨_, ho, rfl⟩ (by decide) F.sub_list_dict F.slot_dict_eq F.slot_list_eq_refl
    (fun _ hq => call_meets F.slot_dict_eq ⟨_, hl, rfl⟩ F.entry_dict_eq (F.args_dict_eq_2 _ _) (l3_dict_eq_list l es n dd sl b items n2 dd2 sl2) ⟨hl, ho, hq⟩)
    (fun _ hq => call_meets F.slot_list_eq_refl ⟨_, ho, rfl⟩ F.entry_list_eq (F.args_list_eq_2 _ _) (l3_list_eq_dict l es n dd sl b items n2 dd2 sl2) ⟨hl, ho, hq⟩)
    (fun _ hq => wpAny_isSame_ref_other' hne hl ho l3_ne3 hq) (.inr hu) h
theorem l3_rc_list_dict (hl : s.heap.get? l = some (dObj es n dd sl)) (hb : s.heap.IsList b items) (hu : A.units < cLine) : RcAt A s (.ref b) (.ref l) false := fun prog w E Q h => by
  obtain ⟨⟨cls, dd2, data, sl2⟩, ho, hc, n2, hd⟩ := id hb
  simp only at hc hd
  subst hc hd
  have hne : b ≠ l := fun z => by subst z; rw [hl] at ho; exact absurd (congrArg Obj.cls (Option.some.inj ho)) (by first | exact l3_ne1 | exact l3_ne2)
  exact rc_eq_decline_or (k := false) ⟨_, ho, rfl⟩ ⟨_, hl, rfl⟩ (by decide) F.sub_dict_list F.slot_list_eq F.slot_dict_eq_refl
    (fun _ hq => call_meets F.slot_list_eq ⟨_, ho, rfl⟩ F.entry_list_eq (F.args_list_eq_2 _ _) (l3_list_eq_dict l es n dd sl b items n2 dd2 sl2) ⟨hl, ho, hq⟩)
    (fun _ hq => call_meets F.slot_dict_eq_refl ⟨_, hl, rfl⟩ F.entry_dict_eq (F.args_dict_eq_2 _ _) (l3_dict_eq_list l es n dd sl b items n2 dd2 sl2) ⟨hl, ho, hq⟩)
    (fun _ hq => wpAny_isSame_ref_other' hne ho hl l3_ne2 hq) (.inr hu) h
theorem l3_rc_dict_tuple (hl : s.heap.get? l = some (dObj es n dd sl)) (hb : s.heap.IsTuple b items) (hu : A.units < cLine) : RcAt A s (.ref l) (.ref b) false := fun prog w E Q h => by
  obtain ⟨⟨cls, dd2, data, sl2⟩, ho, hc, n2, hd⟩ := id hb
  simp only at hc hd
  subst hc hd
  have hne : l ≠ b := fun z => by subst z; rw [hl] at ho; exact absurd (congrArg Obj.cls (Option.some.inj ho)) (by first | exact l3_ne1 | exact l3_ne2)
  have e1 : (l == b) = false := by simpa using hne
  exact rc_eq_decline_or (k := false) ⟨_, hl, rfl⟩ ⟨_, ho, rfl⟩ (by decide) F.sub_tuple_dict F.slot_dict_eq F.slot_tuple_eq_refl
    (fun _ hq => call_meets F.slot_dict_eq ⟨_, hl, rfl⟩ F.entry_dict_eq (F.args_dict_eq_2 _ _) (l3_dict_eq_tuple l es n dd sl b items n2 dd2 sl2) ⟨hl, ho, hq⟩)
    (fun _ hq => call_meets F.slot_tuple_eq_refl ⟨_, ho, rfl⟩ F.entry_tuple_eq (F.args_tuple_eq_2 _ _) (l3_tuple_eq_dict l es n dd sl b items n2 dd2 sl2) ⟨hl, ho, hq⟩)
    (fun R hq => by
      show wpAny _ _ (if (l == b) = true then pure true else _) R E s
      rw [if_neg (by rw [e1]; decide)]
      refine wpAny_bind (wpAny_load hl (wpAny_bind (wpAny_load ho ?_)))
      split
      · rename_i h1 _ _ _; exact absurd h1 l3_ne2
      · exact wpAny_pure hq) (.inr hu) h
theorem l3_rc_tuple_dict (hl : s.heap.get? l = some (dObj es n dd sl)) (hb : s.heap.IsTuple b items) (hu : A.units < cLine) : RcAt A s (.ref b) (.ref l) false := fun prog w E Q h => by
  obtain ⟨⟨cls, dd2, data, sl2⟩, ho, hc, n2, hd⟩ := id hb
  simp only at hc hd
  subst hc hd
  have hne : b ≠ l := fun z => by subst z; rw [hl] at ho; exact absurd (congrArg Obj.cls (Option.some.inj ho)) (by first | exact l3_ne1 | exact l3_ne2)
  exact rc_eq_decline_or (k := false) ⟨_, ho, rfl⟩ ⟨_, hl, rfl⟩ (by decide) F.sub_dict_tuple F.slot_tuple_eq F.slot_dict_eq_refl
    (fun _ hq => call_meets F.slot_tuple_eq ⟨_, ho, rfl⟩ F.entry_tuple_eq (F.args_tuple_eq_2 _ _) (l3_tuple_eq_dict l es n dd sl b items n2 dd2 sl2) ⟨hl, ho, hq⟩)
    (fun _ hq => call_meets F.slot_dict_eq_refl ⟨_, hl, rfl⟩ F.entry_dict_eq (F.args_dict_eq_2 _ _) (l3_dict_eq_tuple l es n dd sl b items n2 dd2 sl2) ⟨hl, ho, hq⟩)
    (fun _ hq => wpAny_isSame_ref_other' hne ho hl l3_ne2 hq) (.inr hu) h
end
end PySem.SeqAt

namespace L3
open PySem PySem.Spec PyProof.Rows L2 SeqAt
mutual
def D.eqv : D → D → Bool
  | .non, .non => true
  | .bl a, .bl b => a == b
  | .bl a, .int j => (if a then 1 else 0) == j
  | .int i, .bl b => i == (if b then 1 else 0)
  | .int i, .int j => i == j
  | .str x, .str y => x == y
  | .lst xs, .lst ys => D.eqvs xs ys
  | .tup xs, .tup ys => D.eqvs xs ys
  | _, _ => false
def D.eqvs : List D → List D → Bool
  | [], [] => true
  | x :: xs, y :: ys => D.eqv x y && D.eqvs xs ys
  | _, _ => false
end
mutual
def D.depth : D → Nat
  | .lst xs => D.depths xs + 1
  | .tup xs => D.depths xs + 1
  | .dct _ xs => D.depths xs + 1
  | .ins _ _ xs => D.depths xs + 1
  | _ => 0
def D.depths : List D → Nat
  | [] => 0
  | x :: xs => max (D.depth x) (D.depths xs)
end
mutual
/-- without instances -/
def D.noi : D → Bool
  | .lst xs => D.nois xs
  | .tup xs => D.nois xs
  | .dct _ xs => D.nois xs
  | .ins _ _ _ => false
  | _ => true
def D.nois : List D → Bool
  | [] => true
  | x :: xs => D.noi x && D.nois xs
end
mutual
/-- without instances and dicts -/
def D.flat : D → Bool
  | .lst xs => D.flats xs
  | .tup xs => D.flats xs
  | .dct _ _ => false
  | .ins _ _ _ => false
  | _ => true
def D.flats : List D → Bool
  | [] => true
  | x :: xs => D.flat x && D.flats xs
end
/-- the two can be compared by == -/
def eqOk (d e : D) : Bool := d.noi && e.noi && (d.flat || e.flat) && decide (min d.depth e.depth ≤ 150)

/-! data at a value of the heap -/
mutual
inductive Rv (h : Heap) : Value → D → Prop
  | non : Rv h .none .non
  | bl (b : Bool) : Rv h (.bool b) (.bl b)
  | int (i : Int) (t : Tok) : Rv h (.int i t) (.int i)
  | str (x : Str) (t : Tok) : Rv h (.str x t) (.str x)
  | lst {l : Addr} {vs : Array Value} {ds : List D} : h.IsList l vs → Rvs h vs.toList ds → Rv h (.ref l) (.lst ds)
  | tup {l : Addr} {vs : Array Value} {ds : List D} : h.IsTuple l vs → Rvs h vs.toList ds → Rv h (.ref l) (.tup ds)
  | dct {l : Addr} {es : Array DictEntry} {n : Nat} {dd : Option Addr} {sl : Array (Option Value)} {ks : List Key} {ds : List D} : h.get? l = some { cls := .type "dict", dict := dd, data := .dict es n, slots := sl } → Rv h (.ref l) (.dct ks ds)
  | ins {l : Addr} {C : Addr} {fs : List Str} {ds : List D} : Rv h (.ref l) (.ins C fs ds)
inductive Rvs (h : Heap) : List Value → List D → Prop
  | nil : Rvs h [] []
  | cons {v : Value} {d : D} {vs : List Value} {ds : List D} : Rv h v d → Rvs h vs ds → Rvs h (v :: vs) (d :: ds)
end
theorem Rvs.length {h : Heap} : ∀ {vs : List Value} {ds : List D}, Rvs h vs ds → vs.length = ds.length
  | _, _, .nil => rfl
  | _, _, .cons _ r => by simp [Rvs.length r]

section
variable {X : Cx} {pins : List (Addr × Obj)} {σ : St} {H G : Hp} {s : Shared}
mutual
theorem RepD.rv (I : Inv X pins σ H s) (sg : Same G H) : ∀ {d : D} {v : V} {u : Value}, RepD X.K G d v → RelV v u → Rv s.heap u d
  | _, _, _, .non, r => by cases r; exact .non
  | _, _, _, .bl b, r => by cases r; exact .bl b
  | _, _, _, .int i, r => by obtain ⟨t, rfl⟩ := r; exact .int i t
  | _, _, _, .str x, r => by obtain ⟨t, rfl⟩ := r; exact .str x t
  | _, _, _, .tup h q, r => by
    cases r
    obtain ⟨its, rv, p, _⟩ := I.tuple (Same.seqT sg h)
    exact .tup p (RepDs.rv I sg q (by simpa using rv))
  | _, _, _, .lst h q, r => by
    cases r
    obtain ⟨its, rv, p, _⟩ := I.list (.inl (.inl (sg _ _ h)))
    exact .lst p.isList (RepDs.rv I sg q (by simpa using rv))
  | _, _, _, .dct h _ q, r => by
    cases r
    obtain ⟨_, _, vs, _, o, es, ep, h1, h2, h3, _⟩ := (show ObjOk X.prog X.w H s.heap _ (.dK _) from I.hok _ _ (sg _ _ h))
    obtain ⟨cls, dd, data, sl⟩ := o
    have e1 : cls = .type "dict" := h2.1
    have e2 : data = .dict es ep := h3
    subst e1 e2
    exact .dct h1
  | _, _, _, .ins _ h _ q, r => by cases r; exact .ins
  | _, _, _, .scr h q, r => by cases r; exact .ins
  | _, _, _, .exn _ _ _ q, r => by cases r; exact .ins
  | _, _, _, .fn, r => by cases r; exact .ins
theorem RepDs.rv (I : Inv X pins σ H s) (sg : Same G H) : ∀ {ds : List D} {vs : List V} {us : List Value}, RepDs X.K G ds vs → Vals vs us → Rvs s.heap us ds
  | _, _, _, .nil, r => by cases r; exact .nil
  | _, _, _, .cons h q, r => by
    cases r with
    | cons r1 r2 => exact .cons (RepD.rv I sg h r1) (RepDs.rv I sg q r2)
end
theorem DV.rv (I : Inv X pins σ H s) (sg : Same G H) {d : D} {v : V} {u : Value} (h : DV X.K G H d v) (r : RelV v u) : Rv s.heap u d := by
  rcases h with h | ⟨a, vs, xs, rfl, rfl, h1, h2⟩ | ⟨a, ks, vs, xs, rfl, rfl, h1, hl, h2⟩
  · exact h.rv I sg r
  · cases r
    obtain ⟨its, rv, p, _⟩ := I.list (.inl (.inl h1))
    exact .lst p.isList (RepDs.rv I sg h2 (by simpa using rv))
  · cases r
    obtain ⟨_, _, vs', _, o, es, ep, h3, h4, h5, _⟩ := (show ObjOk X.prog X.w H s.heap _ (.dK _) from I.hok _ _ h1)
    obtain ⟨cls, dd, data, sl⟩ := o
    have e1 : cls = .type "dict" := h4.1
    have e2 : data = .dict es ep := h5
    subst e1 e2
    exact .dct h3
end

section
variable {h : Heap}
theorem istup_fun {l : Addr} {vs ws : Array Value} (a : h.IsTuple l vs) (b : h.IsTuple l ws) : vs = ws := by
  obtain ⟨o, h1, _, n, h2⟩ := a
  obtain ⟨o', h1', _, n', h2'⟩ := b
  rw [h1] at h1'; cases h1'
  rw [h2] at h2'; injection h2'
theorem islist_fun {l : Addr} {vs ws : Array Value} (a : h.IsList l vs) (b : h.IsList l ws) : vs = ws := by
  obtain ⟨o, h1, _, n, h2⟩ := a
  obtain ⟨o', h1', _, n', h2'⟩ := b
  rw [h1] at h1'; cases h1'
  rw [h2] at h2'; injection h2'
mutual
/-- the data at a value is one, where neither has a dict -/
theorem Rv.unique : ∀ {u : Value} {d e : D}, Rv h u d → Rv h u e → d.flat = true → e.noi = true → d = e
  | _, _, _, .non, r, _, _ => by cases r; rfl
  | _, _, _, .bl b, r, _, _ => by cases r; rfl
  | _, _, _, .int i t, r, _, _ => by cases r; rfl
  | _, _, _, .str x t, r, _, _ => by cases r; rfl
  | _, _, _, .lst p q, r, f, g => by
    cases r with
    | lst p' q' =>
      have e := islist_fun p p'
      subst e
      rw [Rvs.unique q q' (by simpa [D.flat] using f) (by simpa [D.noi] using g)]
    | tup p' q' =>
      obtain ⟨o, h1, c, _⟩ := p
      obtain ⟨o', h1', c', _⟩ := p'
      rw [h1] at h1'; cases h1'
      rw [c] at c'; exact absurd c' l3_ne3
    | dct p' =>
      obtain ⟨o, h1, c, _⟩ := p
      rw [h1] at p'; cases p'
      exact absurd c l3_ne1
    | ins => simp [D.noi] at g
  | _, _, _, .tup p q, r, f, g => by
    cases r with
    | tup p' q' =>
      have e := istup_fun p p'
      subst e
      rw [Rvs.unique q q' (by simpa [D.flat] using f) (by simpa [D.noi] using g)]
    | lst p' q' =>
      obtain ⟨o, h1, c, _⟩ := p
      obtain ⟨o', h1', c', _⟩ := p'
      rw [h1] at h1'; cases h1'
      rw [c] at c'; exact absurd c'.symm l3_ne3
    | dct p' =>
      obtain ⟨o, h1, c, _⟩ := p
      rw [h1] at p'; cases p'
      exact absurd c l3_ne2
    | ins => simp [D.noi] at g
  | _, _, _, .dct _, _, f, _ => by simp [D.flat] at f
  | _, _, _, .ins, _, f, _ => by simp [D.flat] at f
theorem Rvs.unique : ∀ {us : List Value} {ds es : List D}, Rvs h us ds → Rvs h us es → D.flats ds = true → D.nois es = true → ds = es
  | _, _, _, .nil, r, _, _ => by cases r; rfl
  | _, _, _, .cons a b, r, f, g => by
    cases r with
    | cons a' b' =>
      simp only [D.flats, Bool.and_eq_true] at f
      simp only [D.nois, Bool.and_eq_true] at g
      rw [Rv.unique a a' f.1 g.1, Rvs.unique b b' f.2 g.2]
end
end
mutual
theorem D.eqv_refl : ∀ {d : D}, d.flat = true → D.eqv d d = true
  | .non, _ => rfl
  | .bl b, _ => by simp [D.eqv]
  | .int i, _ => by simp [D.eqv]
  | .str x, _ => by simp [D.eqv]
  | .lst xs, h => by simp only [D.eqv]; exact D.eqvs_refl (by simpa [D.flat] using h)
  | .tup xs, h => by simp only [D.eqv]; exact D.eqvs_refl (by simpa [D.flat] using h)
  | .dct _ _, h => by simp [D.flat] at h
  | .ins _ _ _, h => by simp [D.flat] at h
theorem D.eqvs_refl : ∀ {ds : List D}, D.flats ds = true → D.eqvs ds ds = true
  | [], _ => by simp [D.eqvs]
  | x :: xs, h => by
    simp only [D.flats, Bool.and_eq_true] at h
    simp only [D.eqvs, D.eqv_refl h.1, D.eqvs_refl h.2, Bool.and_self]
end
mutual
theorem D.flat_noi : ∀ {d : D}, d.flat = true → d.noi = true
  | .non, _ => rfl
  | .bl b, _ => rfl
  | .int i, _ => rfl
  | .str x, _ => rfl
  | .lst xs, h => by simp only [D.noi]; exact D.flats_nois (by simpa [D.flat] using h)
  | .tup xs, h => by simp only [D.noi]; exact D.flats_nois (by simpa [D.flat] using h)
  | .dct _ _, h => by simp [D.flat] at h
  | .ins _ _ _, h => by simp [D.flat] at h
theorem D.flats_nois : ∀ {ds : List D}, D.flats ds = true → D.nois ds = true
  | [], _ => rfl
  | x :: xs, h => by
    simp only [D.flats, Bool.and_eq_true] at h
    simp only [D.nois, D.flat_noi h.1, D.flats_nois h.2, Bool.and_self]
end
def pairE : List D → List D → Nat → Bool
  | x :: _, y :: _, 0 => D.eqv x y
  | _ :: xs, _ :: ys, j + 1 => pairE xs ys j
  | _, _, _ => false
theorem eqvs_len : ∀ {xs ys : List D}, xs.length ≠ ys.length → D.eqvs xs ys = false
  | [], [], h => absurd rfl h
  | [], _ :: _, _ => by simp [D.eqvs]
  | _ :: _, [], _ => by simp [D.eqvs]
  | x :: xs, y :: ys, h => by
    simp only [D.eqvs]
    rw [eqvs_len (by simpa using h), Bool.and_false]
theorem eqvs_all : ∀ {xs ys : List D}, xs.length = ys.length → ((List.range xs.length).all (pairE xs ys)) = D.eqvs xs ys
  | [], [], _ => by simp [D.eqvs]
  | [], _ :: _, h => by simp at h
  | _ :: _, [], h => by simp at h
  | x :: xs, y :: ys, h => by
    rw [List.length_cons, List.range_succ_eq_map, List.all_cons, List.all_map]
    simp only [D.eqvs]
    rw [← eqvs_all (by simpa using h)]
    rfl
theorem eqvs_tup (xs ys : List D) : ((List.range (min xs.length ys.length)).all (pairE xs ys) && xs.length == ys.length) = D.eqvs xs ys := by
  by_cases h : xs.length = ys.length
  · rw [h, Nat.min_self, ← h, eqvs_all h]; simp [h]
  · rw [eqvs_len h]; simp [h]

def eqS (d e : D) : Prop := d.noi = true ∧ e.noi = true ∧ (d.flat = true ∨ e.flat = true)
def eqSs (d e : List D) : Prop := D.nois d = true ∧ D.nois e = true ∧ (D.flats d = true ∨ D.flats e = true)
theorem Rv.uniq {h : Heap} {u : Value} {d e : D} (a : Rv h u d) (b : Rv h u e) (o : eqS d e) : d = e ∧ d.flat = true := by
  rcases o with ⟨h1, h2, h3 | h3⟩
  · exact ⟨a.unique b h3 h2, h3⟩
  · have := b.unique a h3 h1
    subst this
    exact ⟨rfl, h3⟩
theorem hu0 {A : Around} {m n : Nat} (h : A.units + min (m + 1) n < cLine) : A.units < cLine := by omega
theorem ref_ne {l m : Addr} (h : l ≠ m) : (Value.ref l == Value.ref m) = false := by
  rw [beq_eq_false_iff_ne]
  exact fun z => h (Value.ref.inj z)
theorem dict_list_ne {h : Heap} {l b : Addr} {es : Array DictEntry} {n : Nat} {dd : Option Addr} {sl : Array (Option Value)} {vs : Array Value} (p : h.get? l = some { cls := .type "dict", dict := dd, data := .dict es n, slots := sl }) (q : h.IsList b vs) : b ≠ l := fun z => by
  subst z
  obtain ⟨o, h1, c, _⟩ := q
  rw [h1] at p; cases p
  exact absurd c l3_ne1
theorem dict_tup_ne {h : Heap} {l b : Addr} {es : Array DictEntry} {n : Nat} {dd : Option Addr} {sl : Array (Option Value)} {vs : Array Value} (p : h.get? l = some { cls := .type "dict", dict := dd, data := .dict es n, slots := sl }) (q : h.IsTuple b vs) : b ≠ l := fun z => by
  subst z
  obtain ⟨o, h1, c, _⟩ := q
  rw [h1] at p; cases p
  exact absurd c l3_ne2
section
variable {s : Shared}
mutual
theorem Rv.eqAt : ∀ {d e : D} {A : Around} {a b : Value}, Rv s.heap a d → Rv s.heap b e → eqS d e → A.units + min d.depth e.depth < cLine → EqAt A s a b (D.eqv d e)
  | .non, e, A, _, b, ra, rb, ok, hu => by
    cases ra
    cases rb with
    | non => exact EqAt.same _
    | bl y => exact EqAt.none_bool y
    | int y u => exact EqAt.none_int y u
    | str y u => exact EqAt.none_str y u
    | lst p q => exact EqAt.none_list p (by simp [D.depth] at hu; omega)
    | tup p q => exact EqAt.none_tuple p (by simp [D.depth] at hu; omega)
    | dct p => exact l3_eqAt_of_rc rfl (fun _ _ z => nomatch z) (l3_rc_none_dict p (by simp [D.depth] at hu; omega))
    | ins => exact absurd ok.2.1 (by simp [D.noi])
  | .bl x, e, A, _, b, ra, rb, ok, hu => by
    cases ra
    cases rb with
    | non => exact EqAt.bool_none x
    | bl y => exact EqAt.bool_bool x y
    | int y u => exact EqAt.bool_int x y u
    | str y u => exact EqAt.bool_str x y u
    | lst p q => exact EqAt.bool_list x p (by simp [D.depth] at hu; omega)
    | tup p q => exact EqAt.bool_tuple x p (by simp [D.depth] at hu; omega)
    | dct p => exact l3_eqAt_of_rc rfl (fun _ _ z => nomatch z) (l3_rc_bool_dict x p (by simp [D.depth] at hu; omega))
    | ins => exact absurd ok.2.1 (by simp [D.noi])
  | .int x, e, A, _, b, ra, rb, ok, hu => by
    cases ra with
    | int _ t =>
      cases rb with
      | non => exact EqAt.int_none x t
      | bl y => exact EqAt.int_bool x t y
      | int y u => exact EqAt.int_int x t y u
      | str y u => exact EqAt.int_str x t y u
      | lst p q => exact EqAt.int_list x t p (by simp [D.depth] at hu; omega)
      | tup p q => exact EqAt.int_tuple x t p (by simp [D.depth] at hu; omega)
      | dct p => exact l3_eqAt_of_rc rfl (fun _ _ z => nomatch z) (l3_rc_int_dict x t p (by simp [D.depth] at hu; omega))
      | ins => exact absurd ok.2.1 (by simp [D.noi])
  | .str x, e, A, _, b, ra, rb, ok, hu => by
    cases ra with
    | str _ t =>
      cases rb with
      | non => exact EqAt.str_none x t
      | bl y => exact EqAt.str_bool x t y
      | int y u => exact EqAt.str_int x t y u
      | str y u => exact EqAt.str_str x t y u
      | lst p q => exact EqAt.str_list x t p (by simp [D.depth] at hu; omega)
      | tup p q => exact EqAt.str_tuple x t p (by simp [D.depth] at hu; omega)
      | dct p => exact l3_eqAt_of_rc rfl (fun _ _ z => nomatch z) (l3_rc_str_dict x t p (by simp [D.depth] at hu; omega))
      | ins => exact absurd ok.2.1 (by simp [D.noi])
  | .lst xs, e, A, _, b, ra, rb, ok, hu => by
    have hu1 : A.units < cLine := by omega
    cases ra with
    | @lst l vs _ p q =>
      have p0 := p
      cases rb with
      | non => exact EqAt.list_none p hu1
      | bl y => exact EqAt.list_bool y p hu1
      | int y u => exact EqAt.list_int y u p hu1
      | str y u => exact EqAt.list_str y u p hu1
      | tup p' q' => exact EqAt.list_tuple p p' hu1
      | dct p' => exact l3_eqAt_of_rc (ref_ne (dict_list_ne p' p)) (fun _ _ z => nomatch z) (l3_rc_list_dict p' p hu1)
      | ins => exact absurd ok.2.1 (by simp [D.noi])
      | @lst l' vs' ys p' q' =>
        by_cases hll : l = l'
        · subst hll
          obtain ⟨e1, f⟩ := Rv.uniq (.lst p q) (.lst p' q') ok
          rw [← e1, D.eqv_refl f]
          exact EqAt.same _
        · have n1 : vs.size = xs.length := by simpa using q.length
          have n2 : vs'.size = ys.length := by simpa using q'.length
          show EqAt A s (.ref l) (.ref l') (D.eqvs xs ys)
          by_cases hsz : vs.size = vs'.size
          · rw [← eqvs_all (by omega : xs.length = ys.length), ← n1]
            refine EqAt.of_refs hll (RcAt.lists p p' hsz hu1 fun j j1 j2 => ?_)
            have := Rvs.eqAt q q' (A := A.in1) (by simpa [eqS, eqSs, D.noi, D.flat] using ok) (by simp only [D.depth] at hu; show A.units + 1 + _ < cLine; omega) j (by simpa using j1) (by simpa using j2)
            simpa using this
          · rw [eqvs_len (by omega : xs.length ≠ ys.length)]
            exact EqAt.of_refs hll (RcAt.lists_lengths p p' (by simpa using hsz) hu1)
  | .tup xs, e, A, _, b, ra, rb, ok, hu => by
    have hu1 : A.units < cLine := by omega
    cases ra with
    | @tup l vs _ p q =>
      cases rb with
      | non => exact EqAt.tuple_none p hu1
      | bl y => exact EqAt.tuple_bool y p hu1
      | int y u => exact EqAt.tuple_int y u p hu1
      | str y u => exact EqAt.tuple_str y u p hu1
      | lst p' q' => exact EqAt.tuple_list p p' hu1
      | dct p' => exact l3_eqAt_of_rc (ref_ne (dict_tup_ne p' p)) (fun _ _ z => nomatch z) (l3_rc_tuple_dict p' p hu1)
      | ins => exact absurd ok.2.1 (by simp [D.noi])
      | @tup l' vs' ys p' q' =>
        by_cases hll : l = l'
        · subst hll
          obtain ⟨e1, f⟩ := Rv.uniq (.tup p q) (.tup p' q') ok
          rw [← e1, D.eqv_refl f]
          exact EqAt.same _
        · have n1 : vs.size = xs.length := by simpa using q.length
          have n2 : vs'.size = ys.length := by simpa using q'.length
          show EqAt A s (.ref l) (.ref l') (D.eqvs xs ys)
          rw [← eqvs_tup xs ys, ← n1, ← n2]
          refine EqAt.of_refs hll (RcAt.tuples p p' hu1 fun j j1 j2 => ?_)
          have := Rvs.eqAt q q' (A := A.in1) (by simpa [eqS, eqSs, D.noi, D.flat] using ok) (by simp only [D.depth] at hu; show A.units + 1 + _ < cLine; omega) j (by simpa using j1) (by simpa using j2)
          simpa using this
  | .dct ks xs, e, A, _, b, ra, rb, ok, hu => by
    have hu1 : A.units < cLine := by omega
    cases ra with
    | @dct l es n dd sl _ _ p =>
      cases rb with
      | non => exact l3_eqAt_of_rc rfl (fun _ _ z => nomatch z) (l3_rc_dict_none p hu1)
      | bl y => exact l3_eqAt_of_rc rfl (fun _ _ z => nomatch z) (l3_rc_dict_bool y p hu1)
      | int y u => exact l3_eqAt_of_rc rfl (fun _ _ z => nomatch z) (l3_rc_dict_int y u p hu1)
      | str y u => exact l3_eqAt_of_rc rfl (fun _ _ z => nomatch z) (l3_rc_dict_str y u p hu1)
      | lst p' q' => exact l3_eqAt_of_rc (ref_ne (Ne.symm (dict_list_ne p p'))) (fun _ _ z => nomatch z) (l3_rc_dict_list p p' hu1)
      | tup p' q' => exact l3_eqAt_of_rc (ref_ne (Ne.symm (dict_tup_ne p p'))) (fun _ _ z => nomatch z) (l3_rc_dict_tuple p p' hu1)
      | dct p' =>
        rcases ok.2.2 with z | z
        · simp [D.flat] at z
        · simp [D.flat] at z
      | ins => exact absurd ok.2.1 (by simp [D.noi])
  | .ins _ _ _, _, _, _, _, _, _, ok, _ => absurd ok.1 (by simp [D.noi])
theorem Rvs.eqAt : ∀ {xs ys : List D} {A : Around} {vs ws : List Value}, Rvs s.heap vs xs → Rvs s.heap ws ys → eqSs xs ys → A.units + min (D.depths xs) (D.depths ys) < cLine →
    ∀ j (h1 : j < vs.length) (h2 : j < ws.length), EqAt A s vs[j] ws[j] (pairE xs ys j)
  | [], _, _, _, _, ra, _, _, _, j, h1, _ => by cases ra; exact absurd h1 (Nat.not_lt_zero _)
  | _ :: _, [], _, _, _, _, rb, _, _, j, _, h2 => by cases rb; exact absurd h2 (Nat.not_lt_zero _)
  | x :: xs, y :: ys, A, _, _, ra, rb, ok, hu, j, h1, h2 => by
    cases ra with
    | cons r rs =>
      cases rb with
      | cons r' rs' =>
        obtain ⟨k1, k2, k3⟩ := ok
        simp only [D.nois, D.flats, Bool.and_eq_true] at k1 k2 k3
        simp only [D.depths] at hu
        cases j with
        | zero => exact Rv.eqAt r r' ⟨k1.1, k2.1, k3.imp (·.1) (·.1)⟩ (by omega)
        | succ j => exact Rvs.eqAt rs rs' ⟨k1.2, k2.2, k3.imp (·.2) (·.2)⟩ (by omega) j (Nat.lt_of_succ_lt_succ h1) (Nat.lt_of_succ_lt_succ h2)
end
end
end L3

/-! L3: operators, comparisons, subscripts, built-in calls over data -/
namespace L3
open PySem PySem.Spec PyProof.Rows L2 SeqAt

/-! ### == and != -/
section
variable {s : Shared} {A : Around} {a b : Value}
theorem Rv.rcEq {d e : D} (ra : Rv s.heap a d) (rb : Rv s.heap b e) (ok : eqS d e) (hu : A.units + min d.depth e.depth < cLine) : RcAt A s a b (D.eqv d e) := by
  have hu1 : A.units < cLine := by omega
  cases ra with
  | non =>
    cases rb with
    | non => exact RcAt.none_none
    | bl y => exact RcAt.none_bool y
    | int y u => exact RcAt.none_int y u
    | str y u => exact RcAt.none_str y u
    | lst p q => exact RcAt.none_list p hu1
    | tup p q => exact RcAt.none_tuple p hu1
    | dct p => exact l3_rc_none_dict p hu1
    | ins => exact absurd ok.2.1 (by simp [D.noi])
  | bl x =>
    cases rb with
    | non => exact RcAt.bool_none x
    | bl y => exact RcAt.bool_bool x y
    | int y u => exact RcAt.bool_int x y u
    | str y u => exact RcAt.bool_str x y u
    | lst p q => exact RcAt.bool_list x p hu1
    | tup p q => exact RcAt.bool_tuple x p hu1
    | dct p => exact l3_rc_bool_dict x p hu1
    | ins => exact absurd ok.2.1 (by simp [D.noi])
  | int x t =>
    cases rb with
    | non => exact RcAt.int_none x t
    | bl y => exact RcAt.int_bool x t y
    | int y u => exact RcAt.int_int x t y u
    | str y u => exact RcAt.int_str x t y u
    | lst p q => exact RcAt.int_list x t p hu1
    | tup p q => exact RcAt.int_tuple x t p hu1
    | dct p => exact l3_rc_int_dict x t p hu1
    | ins => exact absurd ok.2.1 (by simp [D.noi])
  | str x t =>
    cases rb with
    | non => exact RcAt.str_none x t
    | bl y => exact RcAt.str_bool x t y
    | int y u => exact RcAt.str_int x t y u
    | str y u => exact RcAt.str_str x t y u
    | lst p q => exact RcAt.str_list x t p hu1
    | tup p q => exact RcAt.str_tuple x t p hu1
    | dct p => exact l3_rc_str_dict x t p hu1
    | ins => exact absurd ok.2.1 (by simp [D.noi])
  | @lst l vs xs p q =>
    cases rb with
    | non => exact RcAt.list_none p hu1
    | bl y => exact RcAt.list_bool y p hu1
    | int y u => exact RcAt.list_int y u p hu1
    | str y u => exact RcAt.list_str y u p hu1
    | tup p' q' => exact RcAt.list_tuple p p' hu1
    | dct p' => exact l3_rc_list_dict p' p hu1
    | ins => exact absurd ok.2.1 (by simp [D.noi])
    | @lst l' vs' ys p' q' =>
      have n1 : vs.size = xs.length := by simpa using q.length
      have n2 : vs'.size = ys.length := by simpa using q'.length
      show RcAt A s (.ref l) (.ref l') (D.eqvs xs ys)
      by_cases hsz : vs.size = vs'.size
      · rw [← eqvs_all (by omega : xs.length = ys.length), ← n1]
        refine RcAt.lists p p' hsz hu1 fun j j1 j2 => ?_
        have := Rvs.eqAt q q' (A := A.in1) (by simpa [eqS, eqSs, D.noi, D.flat] using ok) (by simp only [D.depth] at hu; show A.units + 1 + _ < cLine; omega) j (by simpa using j1) (by simpa using j2)
        simpa using this
      · rw [eqvs_len (by omega : xs.length ≠ ys.length)]
        exact RcAt.lists_lengths p p' (by simpa using hsz) hu1
  | @tup l vs xs p q =>
    cases rb with
    | non => exact RcAt.tuple_none p hu1
    | bl y => exact RcAt.tuple_bool y p hu1
    | int y u => exact RcAt.tuple_int y u p hu1
    | str y u => exact RcAt.tuple_str y u p hu1
    | lst p' q' => exact RcAt.tuple_list p p' hu1
    | dct p' => exact l3_rc_tuple_dict p' p hu1
    | ins => exact absurd ok.2.1 (by simp [D.noi])
    | @tup l' vs' ys p' q' =>
      have n1 : vs.size = xs.length := by simpa using q.length
      have n2 : vs'.size = ys.length := by simpa using q'.length
      show RcAt A s (.ref l) (.ref l') (D.eqvs xs ys)
      rw [← eqvs_tup xs ys, ← n1, ← n2]
      refine RcAt.tuples p p' hu1 fun j j1 j2 => ?_
      have := Rvs.eqAt q q' (A := A.in1) (by simpa [eqS, eqSs, D.noi, D.flat] using ok) (by simp only [D.depth] at hu; show A.units + 1 + _ < cLine; omega) j (by simpa using j1) (by simpa using j2)
      simpa using this
  | @dct l es n dd sl _ _ p =>
    cases rb with
    | non => exact l3_rc_dict_none p hu1
    | bl y => exact l3_rc_dict_bool y p hu1
    | int y u => exact l3_rc_dict_int y u p hu1
    | str y u => exact l3_rc_dict_str y u p hu1
    | lst p' q' => exact l3_rc_dict_list p p' hu1
    | tup p' q' => exact l3_rc_dict_tuple p p' hu1
    | dct p' =>
      rcases ok.2.2 with z | z
      · simp [D.flat] at z
      · simp [D.flat] at z
    | ins => exact absurd ok.2.1 (by simp [D.noi])
  | ins => exact absurd ok.1 (by simp [D.noi])
def D.isDct : D → Bool
  | .dct _ _ => true
  | _ => false
theorem Rv.rcNe {d e : D} (ra : Rv s.heap a d) (rb : Rv s.heap b e) (ok : eqS d e) (hd : d.isDct = false) (he : e.isDct = false) (hu : A.units + min d.depth e.depth < cLine) : RcNeAt A s a b (!D.eqv d e) := by
  have hu1 : A.units < cLine := by omega
  cases ra with
  | non =>
    cases rb with
    | non => exact RcNeAt.none_none
    | bl y => exact RcNeAt.none_bool y
    | int y u => exact RcNeAt.none_int y u
    | str y u => exact RcNeAt.none_str y u
    | lst p q => exact RcNeAt.none_list p hu1
    | tup p q => exact RcNeAt.none_tuple p hu1
    | dct p => cases he
    | ins => exact absurd ok.2.1 (by simp [D.noi])
  | bl x =>
    cases rb with
    | non => exact RcNeAt.bool_none x
    | bl y => exact RcNeAt.bool_bool x y
    | int y u => exact RcNeAt.bool_int x y u
    | str y u => exact RcNeAt.bool_str x y u
    | lst p q => exact RcNeAt.bool_list x p hu1
    | tup p q => exact RcNeAt.bool_tuple x p hu1
    | dct p => cases he
    | ins => exact absurd ok.2.1 (by simp [D.noi])
  | int x t =>
    cases rb with
    | non => exact RcNeAt.int_none x t
    | bl y => exact RcNeAt.int_bool x t y
    | int y u => exact RcNeAt.int_int x t y u
    | str y u => exact RcNeAt.int_str x t y u
    | lst p q => exact RcNeAt.int_list x t p hu1
    | tup p q => exact RcNeAt.int_tuple x t p hu1
    | dct p => cases he
    | ins => exact absurd ok.2.1 (by simp [D.noi])
  | str x t =>
    cases rb with
    | non => exact RcNeAt.str_none x t
    | bl y => exact RcNeAt.str_bool x t y
    | int y u => exact RcNeAt.str_int x t y u
    | str y u => exact RcNeAt.str_str x t y u
    | lst p q => exact RcNeAt.str_list x t p hu1
    | tup p q => exact RcNeAt.str_tuple x t p hu1
    | dct p => cases he
    | ins => exact absurd ok.2.1 (by simp [D.noi])
  | @lst l vs xs p q =>
    cases rb with
    | non => exact RcNeAt.list_none p hu1
    | bl y => exact RcNeAt.list_bool y p hu1
    | int y u => exact RcNeAt.list_int y u p hu1
    | str y u => exact RcNeAt.list_str y u p hu1
    | tup p' q' => exact RcNeAt.list_tuple p p' hu1
    | dct p => cases he
    | ins => exact absurd ok.2.1 (by simp [D.noi])
    | @lst l' vs' ys p' q' =>
      have n1 : vs.size = xs.length := by simpa using q.length
      have n2 : vs'.size = ys.length := by simpa using q'.length
      show RcNeAt A s (.ref l) (.ref l') (!D.eqvs xs ys)
      by_cases hsz : vs.size = vs'.size
      · rw [← eqvs_all (by omega : xs.length = ys.length), ← n1]
        refine RcNeAt.lists p p' hsz hu1 fun j j1 j2 => ?_
        have := Rvs.eqAt q q' (A := A.in1) (by simpa [eqS, eqSs, D.noi, D.flat] using ok) (by simp only [D.depth] at hu; show A.units + 1 + _ < cLine; omega) j (by simpa using j1) (by simpa using j2)
        simpa using this
      · rw [eqvs_len (by omega : xs.length ≠ ys.length)]
        exact RcNeAt.lists_lengths p p' (by simpa using hsz) hu1
  | @tup l vs xs p q =>
    cases rb with
    | non => exact RcNeAt.tuple_none p hu1
    | bl y => exact RcNeAt.tuple_bool y p hu1
    | int y u => exact RcNeAt.tuple_int y u p hu1
    | str y u => exact RcNeAt.tuple_str y u p hu1
    | lst p' q' => exact RcNeAt.tuple_list p p' hu1
    | dct p => cases he
    | ins => exact absurd ok.2.1 (by simp [D.noi])
    | @tup l' vs' ys p' q' =>
      have n1 : vs.size = xs.length := by simpa using q.length
      have n2 : vs'.size = ys.length := by simpa using q'.length
      show RcNeAt A s (.ref l) (.ref l') (!D.eqvs xs ys)
      rw [← eqvs_tup xs ys, ← n1, ← n2]
      refine RcNeAt.tuples p p' hu1 fun j j1 j2 => ?_
      have := Rvs.eqAt q q' (A := A.in1) (by simpa [eqS, eqSs, D.noi, D.flat] using ok) (by simp only [D.depth] at hu; show A.units + 1 + _ < cLine; omega) j (by simpa using j1) (by simpa using j2)
      simpa using this
  | dct p => cases hd
  | ins => exact absurd ok.1 (by simp [D.noi])
end
theorem eqS_of {d e : D} (h : eqOk d e = true) : eqS d e ∧ min d.depth e.depth ≤ 150 := by
  simp only [eqOk, Bool.and_eq_true, Bool.or_eq_true, decide_eq_true_eq] at h
  exact ⟨⟨h.1.1.1, h.1.1.2, h.1.2⟩, h.2⟩
def rEq3 (K : PySem.W.Frag) : R2 := fun x y H Q => ∃ (G : Hp) (d e : D), Same G H ∧ DV K G H d x ∧ DV K G H e y ∧ eqOk d e = true ∧ Q (.bl (D.eqv d e)) H
def rNe3 (K : PySem.W.Frag) : R2 := fun x y H Q => ∃ (G : Hp) (d e : D), Same G H ∧ DV K G H d x ∧ DV K G H e y ∧ (eqOk d e && !d.isDct && !e.isDct) = true ∧ Q (.bl (!D.eqv d e)) H
section
variable {X : Cx}
theorem op_eq3 (hu : X.A.units + 200 < cLine) : OpR X (compareOp .Eq) (rEq3 X.K) := by
  intro pins s σ H x y v u Q I rx ry ⟨G, d, e, sg, hd, he, ok, q⟩
  obtain ⟨o1, o2⟩ := eqS_of ok
  exact Rv.rcEq (A := X.A) (hd.rv I sg rx) (he.rv I sg ry) o1 (by omega) X.prog X.w _ _ ⟨.bl _, H, I, rfl, q⟩
theorem op_ne3 (hu : X.A.units + 200 < cLine) : OpR X (compareOp .NotEq) (rNe3 X.K) := by
  intro pins s σ H x y v u Q I rx ry ⟨G, d, e, sg, hd, he, ok, q⟩
  simp only [Bool.and_eq_true, Bool.not_eq_true'] at ok
  obtain ⟨o1, o2⟩ := eqS_of ok.1.1
  exact Rv.rcNe (A := X.A) (hd.rv I sg rx) (he.rv I sg ry) o1 ok.1.2 ok.2 (by omega) X.prog X.w _ _ ⟨.bl _, H, I, rfl, q⟩
end
def r3Eq : R3 := fun d e Q => eqOk d e = true ∧ Q (.d (.bl (D.eqv d e)))
def r3Ne : R3 := fun d e Q => (eqOk d e && !d.isDct && !e.isDct) = true ∧ Q (.d (.bl (!D.eqv d e)))
section
variable {K : PySem.W.Frag}
theorem o3_eq : Op3 K (rEq3 K) r3Eq := fun G H d1 d2 x y Qr Q sg h1 h2 ⟨ok, q⟩ k => ⟨G, d1, d2, sg, h1, h2, ok, k _ _ _ _ (.d (.bl _)) q⟩
theorem o3_ne : Op3 K (rNe3 K) r3Ne := fun G H d1 d2 x y Qr Q sg h1 h2 ⟨ok, q⟩ k => ⟨G, d1, d2, sg, h1, h2, ok, k _ _ _ _ (.d (.bl _)) q⟩
/-! ### ints -/
def r3I (C : Int → Int → Prop) (g : Int → Int → D) : R3 := fun d e Q => ∃ i j, d = .int i ∧ e = .int j ∧ C i j ∧ Q (.d (g i j))
theorem o3_int {C : Int → Int → Prop} {g : Int → Int → Int} : Op3 K (rI C fun i j => .int (g i j)) (r3I C fun i j => .int (g i j)) := by
  rintro G H d1 d2 x y Qr Q sg h1 h2 ⟨i, j, rfl, rfl, hc, q⟩ k
  exact ⟨i, j, h1.int, h2.int, hc, k _ _ _ _ (.d (.int _)) q⟩
theorem o3_int0 {g : Int → Int → Int} : Op3 K (rI0 fun i j => .int (g i j)) (r3I (fun _ _ => True) fun i j => .int (g i j)) := by
  rintro G H d1 d2 x y Qr Q sg h1 h2 ⟨i, j, rfl, rfl, hc, q⟩ k
  exact ⟨i, j, h1.int, h2.int, k _ _ _ _ (.d (.int _)) q⟩
theorem o3_bl0 {g : Int → Int → Bool} : Op3 K (rI0 fun i j => .bl (g i j)) (r3I (fun _ _ => True) fun i j => .bl (g i j)) := by
  rintro G H d1 d2 x y Qr Q sg h1 h2 ⟨i, j, rfl, rfl, hc, q⟩ k
  exact ⟨i, j, h1.int, h2.int, k _ _ _ _ (.d (.bl _)) q⟩
abbrev r3Add : R3 := r3I (fun _ _ => True) fun i j => .int (i + j)
abbrev r3Sub : R3 := r3I (fun _ _ => True) fun i j => .int (i - j)
abbrev r3Mul : R3 := r3I CMul fun i j => .int (i * j)
abbrev r3Mod : R3 := r3I (fun _ j => 0 < j) fun i j => .int (i % j)
abbrev r3Div : R3 := r3I CDiv fun i j => .int (i / j)
abbrev r3Pow : R3 := r3I CPow fun i j => .int (i ^ j.toNat)
abbrev r3Lt : R3 := r3I (fun _ _ => True) fun i j => .bl (decide (i < j))
abbrev r3Le : R3 := r3I (fun _ _ => True) fun i j => .bl (decide (i ≤ j))
abbrev r3Gt : R3 := r3I (fun _ _ => True) fun i j => .bl (decide (j < i))
abbrev r3Ge : R3 := r3I (fun _ _ => True) fun i j => .bl (decide (j ≤ i))
/-! ### is -/
def D.isNon : D → Bool
  | .non => true
  | _ => false
def r3IsN : R3 := fun d e Q => e = .non ∧ Q (.d (.bl d.isNon))
def r3NotN : R3 := fun d e Q => e = .non ∧ Q (.d (.bl (!d.isNon)))
theorem dv_non {G H : Hp} {d : D} {x : V} (h : DV K G H d x) : (decide (x = .non)) = d.isNon := by
  rcases h with h | ⟨a, vs, xs, rfl, rfl, _⟩ | ⟨a, ks, vs, xs, rfl, rfl, _⟩
  · cases h <;> simp [D.isNon]
  · simp [D.isNon]
  · simp [D.isNon]
theorem o3_isN : Op3 K (fun x y H Q => y = .non ∧ Q (.bl (decide (x = .non))) H) r3IsN := by
  rintro G H d1 d2 x y Qr Q sg h1 h2 ⟨rfl, q⟩ k
  refine ⟨h2.non, ?_⟩
  rw [dv_non h1]
  exact k _ _ _ _ (.d (.bl _)) q
theorem o3_notN : Op3 K (fun x y H Q => y = .non ∧ Q (.bl (!decide (x = .non))) H) r3NotN := by
  rintro G H d1 d2 x y Qr Q sg h1 h2 ⟨rfl, q⟩ k
  refine ⟨h2.non, ?_⟩
  rw [dv_non h1]
  exact k _ _ _ _ (.d (.bl _)) q
def r3IsB : R3 := fun d e Q => ∃ a b, d = .bl a ∧ e = .bl b ∧ Q (.d (.bl (decide (a = b))))
def r3NotB : R3 := fun d e Q => ∃ a b, d = .bl a ∧ e = .bl b ∧ Q (.d (.bl (!decide (a = b))))
theorem o3_isB : Op3 K rIsB r3IsB := by
  rintro G H d1 d2 x y Qr Q sg h1 h2 ⟨a, b, rfl, rfl, q⟩ k
  exact ⟨a, b, h1.bl, h2.bl, k _ _ _ _ (.d (.bl _)) q⟩
theorem o3_notB : Op3 K rNotB r3NotB := by
  rintro G H d1 d2 x y Qr Q sg h1 h2 ⟨a, b, rfl, rfl, q⟩ k
  exact ⟨a, b, h1.bl, h2.bl, k _ _ _ _ (.d (.bl _)) q⟩
/-! ### texts -/
def r3AddS : R3 := fun d e Q => ∃ a b, d = .str a ∧ e = .str b ∧ a.length + b.length ≤ sizeLine ∧ Q (.d (.str (a ++ b)))
theorem o3_addS : Op3 K (fun x y H Q => ∃ i j, x = .str i ∧ y = .str j ∧ i.length + j.length ≤ sizeLine ∧ Q (.str (i ++ j)) H) r3AddS := by
  rintro G H d1 d2 x y Qr Q sg h1 h2 ⟨a, b, rfl, rfl, hl, q⟩ k
  exact ⟨a, b, h1.str, h2.str, hl, k _ _ _ _ (.d (.str _)) q⟩
/-! ### lists, tuples -/
def r3AddL : R3 := fun d e Q => ∃ xs ys, d = .lst xs ∧ e = .lst ys ∧ xs.length + ys.length ≤ 1000000 ∧ Q (.tl (xs ++ ys))
theorem o3_addL : Op3 K rCat r3AddL := by
  rintro G H d1 d2 x y Qr Q sg h1 h2 ⟨xs, ys, rfl, rfl, hl, q⟩ k
  obtain ⟨a, vs, rfl, ha, ra⟩ := h1.lst sg
  obtain ⟨b, ws, rfl, hb, rb⟩ := h2.lst sg
  have l1 := ra.length
  have l2 := rb.length
  refine ⟨a, b, vs, ws, rfl, rfl, ha, hb, Nat.le_trans (by omega) mil, fun p hp => k _ _ _ _ (.nl hp (ra.append rb)) q⟩
def r3AddT : R3 := fun d e Q => ∃ xs ys, d = .tup xs ∧ e = .tup ys ∧ xs.length + ys.length ≤ 1000000 ∧ Q (.d (.tup (xs ++ ys)))
theorem o3_addT : Op3 K (rCatA K) r3AddT := by
  rintro G H d1 d2 x y Qr Q sg h1 h2 ⟨xs, ys, rfl, rfl, hl, q⟩ k
  obtain ⟨a, vs, rfl, ha, ra⟩ := h1.tup sg
  obtain ⟨b, ws, rfl, hb, rb⟩ := h2.tup sg
  have l1 := ra.length
  have l2 := rb.length
  have k1 : RepD K G (.tup xs) (.ref a) := by
    rcases h1 with h | ⟨_, _, _, h, _⟩ | ⟨_, _, _, _, h, _⟩
    · exact h
    · cases h
    · cases h
  have k2 : RepD K G (.tup ys) (.ref b) := by
    rcases h2 with h | ⟨_, _, _, h, _⟩ | ⟨_, _, _, _, h, _⟩
    · exact h
    · cases h
    · cases h
  refine ⟨a, b, vs, ws, rfl, rfl, ha, hb, Nat.le_trans (by omega) mil, fun z => ?_, fun _ z => ?_, fun _ _ p hp => k _ _ _ _ (.nt hp (ra.append rb)) q⟩
  · subst z
    have : xs = [] := List.eq_nil_of_length_eq_zero (by simpa using l1)
    subst this
    exact k _ _ _ _ (.d k2) (by simpa using q)
  · subst z
    have : ys = [] := List.eq_nil_of_length_eq_zero (by simpa using l2)
    subst this
    exact k _ _ _ _ (.d k1) (by simpa using q)
def repD (n : Nat) (xs : List D) : List D := (List.replicate n xs).flatten
theorem RepDs.rep {G : Hp} {xs : List D} {vs : List V} (h : RepDs K G xs vs) : ∀ n : Nat, RepDs K G (repD n xs) (List.replicate n vs).flatten
  | 0 => .nil
  | n + 1 => by
    unfold repD
    rw [List.replicate_succ, List.replicate_succ, List.flatten_cons, List.flatten_cons]
    exact h.append (RepDs.rep h n)
def r3MulL : R3 := fun d e Q => ∃ xs i, d = .lst xs ∧ e = .int i ∧ -(2 ^ 63) ≤ i ∧ i < 2 ^ 63 ∧ xs.length * i.toNat ≤ 1000000 ∧ Q (.tl (repD i.toNat xs))
/-! ### subscripts -/
def r3Ix : R3 := fun d e Q => ∃ i : Int, e = .int i ∧ ((∃ xs x, d = .lst xs ∧ atI xs i = some x ∧ Q (.d x)) ∨ (∃ xs x, d = .tup xs ∧ atI xs i = some x ∧ Q (.d x)) ∨
  ∃ (z : Str) (c : Nat), d = .str z ∧ z.length ≤ sizeLine ∧ atI z.cps.toList i = some c ∧ Q (.d (.str ⟨#[c]⟩)))
theorem RepDs.atI {G : Hp} {xs : List D} {vs : List V} {i : Int} {x : D} (h : RepDs K G xs vs) (e : L2.atI xs i = some x) : ∃ v, L2.atI vs i = some v ∧ RepD K G x v := by
  unfold L2.atI at e ⊢
  rw [← h.length]
  cases q : ixN xs.length i with
  | none => rw [q] at e; cases e
  | some j =>
    rw [q] at e
    exact h.get' e
theorem o3_ix : Op3 K (rIx K) r3Ix := by
  rintro G H d1 d2 x y Qr Q sg h1 h2 ⟨i, rfl, h⟩ k
  have e2 := h2.int
  rcases h with ⟨xs, z, rfl, hz, q⟩ | ⟨xs, z, rfl, hz, q⟩ | ⟨z, c, rfl, hl, hz, q⟩
  · obtain ⟨a, vs, rfl, ha, ra⟩ := h1.lst sg
    obtain ⟨v, hv, rv⟩ := ra.atI hz
    exact .inl ⟨a, vs, i, v, rfl, e2, .inl (.inl ha), hv, k _ _ _ _ (.d rv) q⟩
  · obtain ⟨a, vs, rfl, ha, ra⟩ := h1.tup sg
    obtain ⟨v, hv, rv⟩ := ra.atI hz
    exact .inr (.inl ⟨a, vs, i, v, rfl, e2, ha, hv, k _ _ _ _ (.d rv) q⟩)
  · exact .inr (.inr ⟨z, i, c, h1.str, e2, hl, hz, k _ _ _ _ (.d (.str _)) q⟩)
end
end L3

/-! L3: statements, loops, comprehensions -/
namespace L3
open PySem PySem.Spec PyProof.Rows L2

structure EndsD where
  nx : List S → Prop
  rt : D → List S → Prop
  bk : List S → Prop := fun _ => False
  ct : List S → Prop := fun _ => False
abbrev TDS := XD → EndsD → List S → Prop
structure Fin (K : PySem.W.Frag) (c : C0) (W : WX) (Dx : Ends) (De : EndsD) (Xd : XD) (G : Hp) : Prop where
  nx : ∀ (σ' : St) (G' H' : Hp) (e' : List S), Rel K c G' H' σ' e' → Same G G' → De.nx e' → Dx.nx σ' H'
  rt : ∀ (d : D) (v : V) (σ' : St) (G' H' : Hp) (e' : List S), Rel K c G' H' σ' e' → Same G G' → RepD K G' d v → De.rt d e' → Dx.rt v H'
  bk : ∀ (σ' : St) (G' H' : Hp) (e' : List S), Rel K c G' H' σ' e' → Same G G' → De.bk e' → Dx.bk σ' H'
  ct : ∀ (σ' : St) (G' H' : Hp) (e' : List S), Rel K c G' H' σ' e' → Same G G' → De.ct e' → Dx.ct σ' H'
  xx : ∀ (x : XV) (e' : List S) (cl : Value) (dd : Option Addr) (σ' : St) (G' H' : Hp), Rel K c G' H' σ' e' → Same G G' → RepX K c.H0 G' H' x cl dd → Xd x e' → W cl dd σ' H'
def liftS (K : PySem.W.Frag) (c : C0) (W : WX) (t : TDS) : TS := fun Dx σ H => ∃ (G : Hp) (e : List S) (De : EndsD) (Xd : XD), Rel K c G H σ e ∧ t Xd De e ∧ Fin K c W Dx De Xd G
structure DS (X : Cx) (c : C0) (W : WX) (st : Stmt) (t : TDS) : Prop where
  ps : PS X st (liftS X.K c W t)
structure DSs (X : Cx) (c : C0) (W : WX) (st : List Stmt) (t : TDS) : Prop where
  pss : PSs X st (liftS X.K c W t)
theorem PS.imp {X : Cx} {e : Stmt} {t t' : TS} (h : PS X e t) (i : ∀ D σ H, t' D σ H → t D σ H) : PS X e t' := ⟨fun pins s σ H D I q => h.run pins s σ H D I (i D σ H q)⟩
theorem PSs.imp {X : Cx} {e : List Stmt} {t t' : TS} (h : PSs X e t) (i : ∀ D σ H, t' D σ H → t D σ H) : PSs X e t' := ⟨fun pins s σ H D I q => h.run pins s σ H D I (i D σ H q)⟩
section
variable {K : PySem.W.Frag} {c : C0} {W : WX} {Dx : Ends} {De : EndsD} {Xd : XD} {σ : St} {G H G1 H1 : Hp} {e e1 : List S}
theorem Fin.mono (f : Fin K c W Dx De Xd G) (s : Same G G1) : Fin K c W Dx De Xd G1 :=
  ⟨fun σ' G' H' e' r q h => f.nx σ' G' H' e' r (s.trans q) h, fun d v σ' G' H' e' r q rd h => f.rt d v σ' G' H' e' r (s.trans q) rd h, fun σ' G' H' e' r q h => f.bk σ' G' H' e' r (s.trans q) h,
   fun σ' G' H' e' r q h => f.ct σ' G' H' e' r (s.trans q) h, fun x e' cl dd σ' G' H' r q rx h => f.xx x e' cl dd σ' G' H' r (s.trans q) rx h⟩
theorem Fin.ke (f : Fin K c W Dx De Xd G) (r : Rel K c G H σ e) : KE K c W Xd σ G H e := fun x e' cl dd G' H' st rx h => f.xx x e' cl dd σ G' H' st.rel st.sg (rx.back fun a z => r.fresh0 z) h
end

/-! ### blocks -/
section
variable {X : Cx} {c : C0} {W : WX} {st : Stmt} {rest : List Stmt} {t u : TDS} {ex : Expr} {te : TDE} {pos : Pos}
def dNext : TDS := fun _ De e => De.nx e
def dSeq (t u : TDS) : TDS := fun Xd De e => t Xd { De with nx := u Xd De } e
theorem dss_nil : DSs X c W [] dNext := ⟨PSs.imp pss_nil fun Dx σ H ⟨G, e, De, Xd, rel, h, f⟩ => f.nx σ G H e rel (Same.refl _) h⟩
theorem dss_one (h : DS X c W st t) : DSs X c W [st] t := ⟨pss_one h.ps⟩
theorem dss_cons (h1 : DS X c W st t) (h2 : DSs X c W rest u) : DSs X c W (st :: rest) (dSeq t u) := by
  refine ⟨PSs.imp (pss_cons h1.ps h2.pss) fun Dx σ H ⟨G, e, De, Xd, rel, h, f⟩ => ?_⟩
  exact ⟨G, e, _, Xd, rel, h, ⟨fun σ' G' H' e' r q h' => ⟨G', e', De, Xd, r, h', f.mono q⟩, f.rt, f.bk, f.ct, f.xx⟩⟩
def dBreak : TDS := fun _ De e => De.bk e
def dCont : TDS := fun _ De e => De.ct e
theorem ds_pass : DS X c W (.Pass pos) dNext := ⟨PS.imp ps_pass fun Dx σ H ⟨G, e, De, Xd, rel, h, f⟩ => f.nx σ G H e rel (Same.refl _) h⟩
theorem ds_break : DS X c W (.Break pos) dBreak := ⟨PS.imp ps_break fun Dx σ H ⟨G, e, De, Xd, rel, h, f⟩ => f.bk σ G H e rel (Same.refl _) h⟩
theorem ds_cont : DS X c W (.Continue pos) dCont := ⟨PS.imp ps_continue fun Dx σ H ⟨G, e, De, Xd, rel, h, f⟩ => f.ct σ G H e rel (Same.refl _) h⟩
/-- an expression whose value is dropped -/
def dDrop (te : TDE) : TDS := fun Xd De e => te Xd e fun _ e1 => De.nx e1
theorem ds_expr (he : DE X c W ex te) (hs : swapsWith ex none pos.line X.env = pure false := by rfl) : DS X c W (.Expr ex pos) (dDrop te) := by
  refine ⟨PS.imp (ps_expr he.pe hs) fun Dx σ H ⟨G, e, De, Xd, rel, h, f⟩ => ?_⟩
  exact ⟨G, e, _, Xd, rel, h, fun ρ e1 v G1 H1 s1 r1 h1 => f.nx σ G1 H1 e1 s1.rel s1.sg h1, f.ke rel⟩
def dRet (te : TDE) : TDS := fun Xd De e => te Xd e fun ρ e1 => ∃ d, see e1 ρ = some d ∧ De.rt d (fz e1 ρ)
theorem ds_ret (he : DE X c W ex te) : DS X c W (.Return (some ex) pos) (dRet te) := by
  refine ⟨PS.imp (ps_ret he.pe) fun Dx σ H ⟨G, e, De, Xd, rel, h, f⟩ => ?_⟩
  refine ⟨G, e, _, Xd, rel, h, fun ρ e1 v G1 H1 s1 r1 h1 => ?_, f.ke rel⟩
  obtain ⟨d, sd, h1⟩ := h1
  obtain ⟨G2, s2, rd, _⟩ := Step.asD rel s1 r1 sd
  exact f.rt d v σ G2 H1 _ s2.rel s2.sg rd h1
def dRetN : TDS := fun _ De e => De.rt .non e
theorem ds_retN : DS X c W (.Return none pos) dRetN := ⟨PS.imp ps_retN fun Dx σ H ⟨G, e, De, Xd, rel, h, f⟩ => f.rt .non .non σ G H e rel (Same.refl _) .non h⟩
def dIfS (tc : TDT) (t u : TDS) : TDS := fun Xd De e => tc Xd e fun b e1 => if b = true then t Xd De e1 else u Xd De e1
theorem ds_if {cx : Expr} {a b : List Stmt} {tc : TDT} (hc : DT X c W cx tc) (ha : DSs X c W a t) (hb : DSs X c W b u) : DS X c W (.If cx a b pos) (dIfS tc t u) := by
  refine ⟨PS.imp (ps_if hc.pt ha.pss hb.pss) fun Dx σ H ⟨G, e, De, Xd, rel, h, f⟩ => ?_⟩
  refine ⟨G, e, _, Xd, rel, h, fun b e1 G1 H1 s1 h1 => ?_, f.ke rel⟩
  cases b with
  | true => exact ⟨G1, e1, De, Xd, s1.rel, h1, f.mono s1.sg⟩
  | false => exact ⟨G1, e1, De, Xd, s1.rel, h1, f.mono s1.sg⟩
def dNever : TDS := fun _ _ _ => False
theorem dss_never {sts : List Stmt} : DSs X c W sts dNever := ⟨PSs.imp pss_never fun Dx σ H ⟨G, e, De, Xd, rel, h, f⟩ => h.elim⟩
theorem ds_never : DS X c W st dNever := ⟨PS.imp ps_never fun Dx σ H ⟨G, e, De, Xd, rel, h, f⟩ => h.elim⟩

/-! ### while -/
def whileN (tc : TDT) (tb : TDS) (Xd : XD) (De : EndsD) : Nat → List S → Prop
  | 0, _ => False
  | n + 1, e => tc Xd e fun b e1 => if b = true then tb Xd { De with nx := whileN tc tb Xd De n, ct := whileN tc tb Xd De n, bk := De.nx } e1 else De.nx e1
def dWhile (tc : TDT) (tb : TDS) : TDS := fun Xd De e => ∃ n, whileN tc tb Xd De n e
theorem ds_while {cx : Expr} {body : List Stmt} {tc : TDT} {tb : TDS} (hp : PassesOwn (model X.prog X.w) X.A X.env X.xe) (hc : DT X c W cx tc) (hb : DSs X c W body tb) : DS X c W (.While cx body [] pos) (dWhile tc tb) := by
  refine ⟨PS.imp (ps_while hp hc.pt hb.pss) fun Dx σ H ⟨G, e, De, Xd, rel, ⟨n, h⟩, f⟩ => ?_⟩
  refine ⟨fun m σ' H' => ∃ G' e', Rel X.K c G' H' σ' e' ∧ Same G G' ∧ whileN tc tb Xd De m e', ⟨n, G, e, rel, Same.refl _, h⟩, ?_⟩
  rintro m σ1 H1 ⟨G1, e1, r1, s1, h1⟩
  cases m with
  | zero => exact h1.elim
  | succ m =>
    refine ⟨G1, e1, _, Xd, r1, h1, fun b e2 G2 H2 s2 h2 => ?_, (f.mono s1).ke r1⟩
    cases b with
    | true =>
      rw [if_pos rfl] at h2 ⊢
      refine ⟨fun σ' H' => ∃ G' e', Rel X.K c G' H' σ' e' ∧ Same G G' ∧ whileN tc tb Xd De m e', fun σ' H' q => ⟨m, Nat.lt_succ_self _, q⟩, G2, e2, _, Xd, s2.rel, h2, ?_⟩
      have sg := s1.trans s2.sg
      exact ⟨fun σ' G' H' e' r q h' => ⟨G', e', r, sg.trans q, h'⟩, (f.mono sg).rt, (f.mono sg).nx, fun σ' G' H' e' r q h' => ⟨G', e', r, sg.trans q, h'⟩, (f.mono sg).xx⟩
    | false =>
      rw [if_neg Bool.false_ne_true] at h2 ⊢
      exact (f.mono s1).nx σ1 G2 H2 e2 s2.rel s2.sg h2
end

/-! ### storing into a slot -/
section
variable {K : PySem.W.Frag} {c : C0} {σ : St} {Hs G H G1 H1 : Hp} {e e1 : List S}
/-- slot i gets s -/
theorem Rel.put {i : Nat} {s : S} {v : V} (r : Rel K c G H σ e) (hi : i < e.length) (hf : ∀ t, e[i]? = some t → t.fixd = false) (hs : SlotR K G H s (some v))
    (ho : s.own = true → ∀ a, v = .ref a → G a = none ∧ c.H0 a = none ∧ ∀ j, j ≠ i → ∀ t, e[j]? = some t → t.own = true → σ[j]? ≠ some (some (.ref a))) : Rel K c G H (σ.set i (some v)) (e.set i s) := by
  have hi' : i < σ.length := by rw [r.len]; exact hi
  have at_ : ∀ (j : Nat) (t : S), (e.set i s)[j]? = some t → (j = i ∧ t = s ∧ (σ.set i (some v))[j]? = some (some v)) ∨ (j ≠ i ∧ e[j]? = some t ∧ (σ.set i (some v))[j]? = σ[j]?) := fun j t h => by
    by_cases z : i = j
    · subst z
      rw [List.getElem?_set_self hi] at h
      cases h
      exact .inl ⟨rfl, rfl, List.getElem?_set_self hi'⟩
    · rw [List.getElem?_set_ne z] at h
      exact .inr ⟨fun q => z q.symm, h, List.getElem?_set_ne z⟩
  refine ⟨by rw [List.length_set, List.length_set]; exact r.len, fun j t h => ?_, r.gh, r.keep, r.gsub, r.gnew, fun a ⟨j, t, h1, h2, h3⟩ => ?_, fun j k t u a h1 h2 h3 h4 h5 h6 => ?_, fun j a h => ?_, by rw [List.length_set]; exact r.ln, r.tabs, r.gt⟩
  · rcases at_ j t h with ⟨rfl, rfl, q⟩ | ⟨_, h', q⟩
    · rw [q]; exact hs
    · rw [q]; exact r.sl j t h'
  · rcases at_ j t h1 with ⟨rfl, rfl, q⟩ | ⟨_, h', q⟩
    · rw [q] at h3; cases h3
      obtain ⟨z1, z2, _⟩ := ho h2 a rfl
      exact ⟨z1, .inl z2⟩
    · rw [q] at h3; exact r.own a ⟨j, t, h', h2, h3⟩
  · rcases at_ j t h1 with ⟨rfl, rfl, q⟩ | ⟨nj, h', q⟩
    · rcases at_ k u h2 with ⟨rfl, rfl, q2⟩ | ⟨nk, h2', q2⟩
      · rfl
      · rw [q] at h5; cases h5
        rw [q2] at h6
        exact absurd h6 ((ho h3 a rfl).2.2 k nk u h2' h4)
    · rcases at_ k u h2 with ⟨rfl, rfl, q2⟩ | ⟨nk, h2', q2⟩
      · rw [q2] at h6; cases h6
        rw [q] at h5
        exact absurd h5 ((ho h4 a rfl).2.2 j nj t h' h3)
      · rw [q] at h5; rw [q2] at h6
        exact r.inj j k t u a h' h2' h3 h4 h5 h6
  · obtain ⟨h1, t, h2, h3⟩ := r.rfs j a h
    have nj : i ≠ j := fun z => by subst z; rw [hf t h2] at h3; cases h3
    exact ⟨by rw [List.getElem?_set_ne nj]; exact h1, t, by rw [List.getElem?_set_ne nj]; exact h2, h3⟩
/-- what a slot holds behind name = value -/
def asg (e : List S) (i : Nat) : R → Option (List S)
  | .d x => some (e.set i (.d x))
  | .tl xs => some (e.set i (.ol xs))
  | .td ks xs => some (e.set i (.od ks xs))
  | .tw n => some (e.set i (.well n))
  | .sl j => (see e (.sl j)).map fun d => (fz e (.sl j)).set i (.d d)
/-- the slot may be stored into -/
def free (e : List S) (i : Nat) : Prop := ∃ t : S, e[i]? = some t ∧ t.fixd = false
theorem fz_len (e : List S) (ρ : R) : (fz e ρ).length = e.length := by
  cases ρ with
  | sl i => simp only [fz]; split <;> simp
  | _ => rfl
theorem fz_free {e : List S} {i : Nat} {ρ : R} (h : free e i) : free (fz e ρ) i := by
  obtain ⟨t, h1, h2⟩ := h
  cases ρ with
  | sl j =>
    simp only [fz]
    split
    · by_cases z : j = i
      · subst z; exact ⟨_, List.getElem?_set_self (List.getElem?_eq_some_iff.mp h1).1, rfl⟩
      · exact ⟨t, by rw [List.getElem?_set_ne z]; exact h1, h2⟩
    · by_cases z : j = i
      · subst z; exact ⟨_, List.getElem?_set_self (List.getElem?_eq_some_iff.mp h1).1, rfl⟩
      · exact ⟨t, by rw [List.getElem?_set_ne z]; exact h1, h2⟩
    · exact ⟨t, h1, h2⟩
  | _ => exact ⟨t, h1, h2⟩
theorem Rel.assign {i : Nat} {ρ : R} {v : V} {e' : List S} {G0 H0 : Hp} {e0 : List S} (r0 : Rel K c G0 H0 σ e0) (st : Step K c σ G0 H0 e0 G H e) (rr : RepR K H0 G H σ e ρ v) (hf : free e i) (h : asg e i ρ = some e') :
    ∃ G', Same G G' ∧ Rel K c G' H (σ.set i (some v)) e' := by
  have r := st.rel
  obtain ⟨t, h1, h2⟩ := hf
  have hi := (List.getElem?_eq_some_iff.mp h1).1
  have hx : ∀ t', e[i]? = some t' → t'.fixd = false := fun t' q => by rw [h1] at q; cases q; exact h2
  have nown : ∀ {a : Addr}, ¬ OwnAt σ e a → ∀ j, j ≠ i → ∀ t, e[j]? = some t → t.own = true → σ[j]? ≠ some (some (.ref a)) := fun hn j _ t q1 q2 q3 => hn ⟨j, t, q1, q2, q3⟩
  cases ρ with
  | d x =>
    cases h
    exact ⟨G, Same.refl _, r.put hi hx ⟨v, rfl, rr⟩ fun z => by cases z⟩
  | tl xs =>
    cases h
    obtain ⟨a, vs, rfl, k1, k2, k3, k4, k5⟩ := rr
    exact ⟨G, Same.refl _, r.put hi hx ⟨a, vs, rfl, k1, k2⟩ fun _ b hb => by cases hb; exact ⟨k3, r0.fresh0 k4, nown k5⟩⟩
  | td ks xs =>
    cases h
    obtain ⟨a, vs, rfl, k1, kl, k2, k3, k4, k5⟩ := rr
    exact ⟨G, Same.refl _, r.put hi hx ⟨a, vs, rfl, k1, kl, k2⟩ fun _ b hb => by cases hb; exact ⟨k3, r0.fresh0 k4, nown k5⟩⟩
  | tw n =>
    cases h
    obtain ⟨a, rfl, k1, k3, k4, k5⟩ := rr
    exact ⟨G, Same.refl _, r.put hi hx ⟨a, rfl, k1⟩ fun _ b hb => by cases hb; exact ⟨k3, r0.fresh0 k4, nown k5⟩⟩
  | sl j =>
    simp only [asg, Option.map_eq_some_iff] at h
    obtain ⟨d, sd, rfl⟩ := h
    obtain ⟨G', s2, rd, s3⟩ := Step.asD r0 st rr sd
    obtain ⟨t', f1, f2⟩ := fz_free (ρ := .sl j) ⟨t, h1, h2⟩
    exact ⟨G', s3, s2.rel.put (by rw [fz_len]; exact hi) (fun t'' q => by rw [f1] at q; cases q; exact f2) ⟨v, rfl, rd⟩ fun z => by cases z⟩
end
end L3

/-! L3: targets, what is walked, for, comprehensions -/
namespace L3
open PySem PySem.Spec PyProof.Rows L2

/-! ### name = value -/
section
variable {X : Cx} {c : C0} {W : WX} {ex : Expr} {te : TDE} {pos pos' : Pos}
def dSet (i : Nat) (te : TDE) : TDS := fun Xd De e => te Xd e fun ρ e1 => free e1 i ∧ ∃ e2, asg e1 i ρ = some e2 ∧ De.nx e2
theorem lift_set {K : PySem.W.Frag} {i : Nat} {Dx : Ends} {σ : St} {H : Hp} (h : liftS K c W (dSet i te) Dx σ H) : liftE K c W te σ H fun x H1 => gName i x σ H1 Dx.nx := by
  obtain ⟨G, e, De, Xd, rel, h, f⟩ := h
  refine ⟨G, e, _, Xd, rel, h, fun ρ e1 v G1 H1 s1 r1 h1 => ?_, f.ke rel⟩
  obtain ⟨hf, e2, ha, h1⟩ := h1
  obtain ⟨G2, sg, r2⟩ := Rel.assign rel s1 r1 hf ha
  exact f.nx _ G2 H1 e2 r2 (s1.sg.trans sg) h1
theorem ds_set {i : Nat} {x : Str} (hN : X.N.Nodup) (he : DE X c W ex te) (hi : X.N[i]? = some x := by rfl) (hx : Loc X.env.scope x := by first | exact .inl rfl | exact .inr rfl) (hs : swapsWith ex (some (.Name x pos')) pos.line X.env = pure false := by rfl)
    (hf : X.fn x = true ∨ X.env.scope.names.lookup x = some .local := by first | exact .inl rfl | exact .inr rfl) : DS X c W (.Assign [.Name x pos'] ex pos) (dSet i te) :=
  ⟨PS.imp (ps_set hN hi hx he.pe hs hf) fun Dx σ H h => lift_set h⟩
end

/-! ### targets -/
abbrev TGD := D → List S → (List S → Prop) → Prop
abbrev TGDs := List D → List S → (List S → Prop) → Prop
/-- the slots ts alone are stored into -/
def Only {α : Type} (ts : List Nat) (σ σ' : List α) : Prop := σ'.length = σ.length ∧ ∀ j, j ∉ ts → σ'[j]? = σ[j]?
theorem Only.refl {α : Type} {ts : List Nat} {σ : List α} : Only ts σ σ := ⟨rfl, fun _ _ => rfl⟩
theorem Only.trans {α : Type} {ts us : List Nat} {σ σ1 σ2 : List α} (a : Only ts σ σ1) (b : Only us σ1 σ2) : Only (ts ++ us) σ σ2 :=
  ⟨b.1.trans a.1, fun j h => by rw [List.mem_append, not_or] at h; rw [b.2 j h.2, a.2 j h.1]⟩
theorem Only.set {α : Type} {l : List α} {i : Nat} {x : α} : Only [i] l (l.set i x) := ⟨List.length_set .., fun j hj => List.getElem?_set_ne fun z => hj (by simp [z])⟩
/-- nothing of one's own at vs -/
def okV (e : List S) (vs : List Nat) : Prop := ∀ v ∈ vs, ∀ t : S, e[v]? = some t → t.own = false
theorem okV.app {e1 e2 : List S} {ts us : List Nat} (a : okV e1 ts) (o : Only us e1 e2) (b : okV e2 us) : okV e2 (ts ++ us) := fun v hv t h => by
  by_cases z : v ∈ us
  · exact b v z t h
  · rcases List.mem_append.mp hv with q | q
    · exact a v q t (by rw [← o.2 v z]; exact h)
    · exact absurd q z
def liftG (K : PySem.W.Frag) (c : C0) (ts : List Nat) (t : TGD) : TG := fun v σ H Q => ∃ (G : Hp) (e : List S) (d : D) (Qd : List S → Prop), Rel K c G H σ e ∧ RepD K G d v ∧ t d e Qd ∧
  ∀ (σ' : St) (e' : List S), Rel K c G H σ' e' → Only ts σ σ' → Only ts e e' → okV e' ts → Qd e' → Q σ' H
def liftGs (K : PySem.W.Frag) (c : C0) (ts : List Nat) (t : TGDs) : TGs := fun vs σ H Q => ∃ (G : Hp) (e : List S) (ds : List D) (Qd : List S → Prop), Rel K c G H σ e ∧ RepDs K G ds vs ∧ t ds e Qd ∧
  ∀ (σ' : St) (e' : List S), Rel K c G H σ' e' → Only ts σ σ' → Only ts e e' → okV e' ts → Qd e' → Q σ' H
structure DG (X : Cx) (c : C0) (tg : Expr) (ts : List Nat) (t : TGD) : Prop where
  pg : PG X tg (liftG X.K c ts t)
structure DGs (X : Cx) (c : C0) (tg : List Expr) (ts : List Nat) (t : TGDs) : Prop where
  pgs : PGs X tg (liftGs X.K c ts t)
theorem PG.imp {X : Cx} {e : Expr} {t t' : TG} (h : PG X e t) (i : ∀ v σ H Q, t' v σ H Q → t v σ H Q) : PG X e t' := ⟨fun pins s σ H v u Q I r q => h.run pins s σ H v u Q I r (i v σ H Q q)⟩
theorem PGs.imp {X : Cx} {e : List Expr} {t t' : TGs} (h : PGs X e t) (i : ∀ v σ H Q, t' v σ H Q → t v σ H Q) : PGs X e t' := ⟨fun pins s σ H v u Q I r q => h.run pins s σ H v u Q I r (i v σ H Q q)⟩
section
variable {X : Cx} {c : C0} {pos : Pos} {tg : Expr} {tgs : List Expr} {ts us : List Nat} {t : TGD} {u : TGDs}
def dgName (i : Nat) : TGD := fun d e Q => free e i ∧ Q (e.set i (.d d))
theorem dg_name {i : Nat} {x : Str} (hN : X.N.Nodup) (hi : X.N[i]? = some x := by rfl) (hx : Loc X.env.scope x := by first | exact .inl rfl | exact .inr rfl) (hf : X.fn x = true ∨ X.env.scope.names.lookup x = some .local := by first | exact .inl rfl | exact .inr rfl) :
    DG X c (.Name x pos) [i] (dgName i) := by
  refine ⟨PG.imp (pg_name hN hi hx hf) fun v σ H Q ⟨G, e, d, Qd, rel, rd, ⟨⟨s, h1, h2⟩, h⟩, hQ⟩ => ?_⟩
  have hl := (List.getElem?_eq_some_iff.mp h1).1
  refine hQ _ _ (rel.put (s := .d d) hl (fun s' q => by rw [h1] at q; cases q; exact h2) ⟨v, rfl, rd⟩ fun z => by cases z) Only.set Only.set (fun v hv s q => ?_) h
  rw [List.mem_singleton] at hv
  subst hv
  rw [List.getElem?_set_self hl] at q
  cases q
  rfl
def dgNil : TGDs := fun ds e Q => ds = [] ∧ Q e
def dgCons (t : TGD) (u : TGDs) : TGDs := fun ds e Q => ∃ d r, ds = d :: r ∧ t d e fun e1 => u r e1 Q
theorem dgs_nil : DGs X c [] [] dgNil := by
  refine ⟨PGs.imp pgs_nil fun vs σ H Q ⟨G, e, ds, Qd, rel, rd, ⟨z, h⟩, hQ⟩ => ?_⟩
  subst z; cases rd
  exact ⟨rfl, hQ σ e rel Only.refl Only.refl (fun _ z => by cases z) h⟩
theorem dgs_cons (h1 : DG X c tg ts t) (h2 : DGs X c tgs us u) (hs : (assignEach (tg :: tgs) X.env).map (·.2) = assign tg X.env :: (assignEach tgs X.env).map (·.2) := by rfl) : DGs X c (tg :: tgs) (ts ++ us) (dgCons t u) := by
  refine ⟨PGs.imp (pgs_cons h1.pg h2.pgs hs) fun vs σ H Q ⟨G, e, ds, Qd, rel, rd, ⟨d, r, z, h⟩, hQ⟩ => ?_⟩
  subst z
  cases rd with
  | @cons _ v _ vr k1 k2 =>
    exact ⟨v, vr, rfl, G, e, d, _, rel, k1, h, fun σ1 e1 r1 o1 p1 b1 q1 => ⟨G, e1, r, Qd, r1, k2, q1, fun σ2 e2 r2 o2 p2 b2 q2 => hQ σ2 e2 r2 (o1.trans o2) (p1.trans p2) (b1.app p2 b2) q2⟩⟩
def dgTup (n : Nat) (u : TGDs) : TGD := fun d e Q => ∃ xs, d = .tup xs ∧ xs.length = n ∧ u xs e Q
theorem dg_tup {k : Nat} {n : Nat} (hc : X.calm = true) (h : DGs X c tgs us u) (hn : (assignEach tgs X.env).length = n := by rfl) (hst : (assignEach tgs X.env).findIdx? (·.1) = none := by rfl) : DG X c (.Tuple tgs k pos) us (dgTup n u) := by
  refine ⟨PG.imp (pg_tup hc h.pgs hn hst) fun v σ H Q ⟨G, e, d, Qd, rel, rd, ⟨xs, z, hl, h⟩, hQ⟩ => ?_⟩
  subst z
  cases rd with
  | @tup a vs _ k1 k2 => exact ⟨a, vs, rfl, Same.seqT rel.gh k1, by rw [← k2.length]; exact hl, G, e, xs, Qd, rel, k2, h, hQ⟩
end
/-! target = value -/
section
variable {X : Cx} {c : C0} {W : WX} {ex tg : Expr} {te : TDE} {pos : Pos} {ts : List Nat} {t : TGD}
def dAsg (te : TDE) (t : TGD) : TDS := fun Xd De e => te Xd e fun ρ e1 => ∃ d, see e1 ρ = some d ∧ t d (fz e1 ρ) De.nx
theorem ds_asg (he : DE X c W ex te) (hg : DG X c tg ts t) (hs : swapsWithSole [tg] ex pos.line X.env = pure false := by rfl) (hw : swappedStores [tg] ex X.env = pure none := by rfl)
    (h1 : (assignEach [tg] X.env).map (·.2) = [assign tg X.env] := by rfl) : DS X c W (.Assign [tg] ex pos) (dAsg te t) := by
  refine ⟨PS.imp (ps_asg he.pe hg.pg hs hw h1) fun Dx σ H ⟨G, e, De, Xd, rel, h, f⟩ => ?_⟩
  refine ⟨G, e, _, Xd, rel, h, fun ρ e1 v G1 H1 s1 r1 h1 => ?_, f.ke rel⟩
  obtain ⟨d, sd, h1⟩ := h1
  obtain ⟨G2, s2, rd, _⟩ := Step.asD rel s1 r1 sd
  exact ⟨G2, _, d, _, s2.rel, rd, h1, fun σ' e' r' _ _ _ q => f.nx σ' G2 H1 e' r' s2.sg q⟩
/-- a, b = x, y -/
def dPar (i j : Nat) (ta tb : TDE) : TDS := fun Xd De e => ta Xd e fun ρ1 e1 => tb Xd e1 fun ρ2 e2 => (∀ k, ρ1 ≠ .sl k) ∧ (∀ k, ρ2 ≠ .sl k) ∧ free e2 i ∧ free e2 j ∧ ∃ e3 e4, asg e2 i ρ1 = some e3 ∧ asg e3 j ρ2 = some e4 ∧ De.nx e4
end
section
variable {K : PySem.W.Frag} {c : C0} {σ : St} {Hs G H G1 H1 : Hp} {e e1 : List S} {ρ ρ' : R} {v v' : V} {i : Nat}
/-- a result that is no slot is kept where another one is stored -/
theorem RepR.stored {e' : List S} (r : RepR K Hs G H σ e ρ v) (hn : ∀ k, ρ ≠ .sl k) (hn' : ∀ k, ρ' ≠ .sl k) (ha : asg e i ρ' = some e')
    (ne : ∀ a, v = .ref a → v' = .ref a → (∀ x, ρ' ≠ .d x) → (∀ x, ρ ≠ .d x) → False) : RepR K Hs G H (σ.set i (some v')) e' ρ v := by
  have own : ∀ a, v = .ref a → (∀ x, ρ ≠ .d x) → ¬ OwnAt σ e a → ¬ OwnAt (σ.set i (some v')) e' a := fun a hv hd hn ⟨j, t, h1, h2, h3⟩ => by
    have he : ∃ t', e' = e.set i t' ∧ (t'.own = true → ∀ x, ρ' ≠ .d x) := by
      cases ρ' with
      | sl k => exact absurd rfl (hn' k)
      | d x => simp only [asg, Option.some.injEq] at ha; exact ⟨_, ha.symm, fun z => by cases z⟩
      | tl xs => simp only [asg, Option.some.injEq] at ha; exact ⟨_, ha.symm, fun _ _ z => by cases z⟩
      | td ks xs => simp only [asg, Option.some.injEq] at ha; exact ⟨_, ha.symm, fun _ _ z => by cases z⟩
      | tw n => simp only [asg, Option.some.injEq] at ha; exact ⟨_, ha.symm, fun _ _ z => by cases z⟩
    obtain ⟨t', rfl, ht'⟩ := he
    by_cases z : i = j
    · subst z
      have hi : i < σ.length := by
        have := (List.getElem?_eq_some_iff.mp h3).1
        rw [List.length_set] at this
        exact this
      have hi2 : i < e.length := by
        have := (List.getElem?_eq_some_iff.mp h1).1
        rw [List.length_set] at this
        exact this
      rw [List.getElem?_set_self hi] at h3
      rw [List.getElem?_set_self hi2] at h1
      cases h3
      cases h1
      exact ne a hv rfl (ht' h2) hd
    · rw [List.getElem?_set_ne z] at h1 h3
      exact hn ⟨j, t, h1, h2, h3⟩
  cases ρ with
  | d x => exact r
  | sl k => exact absurd rfl (hn k)
  | tl xs => obtain ⟨a, vs, rfl, q2, q3, q4, q5, q6⟩ := r; exact ⟨a, vs, rfl, q2, q3, q4, q5, own a rfl (fun _ z => by cases z) q6⟩
  | td ks xs => obtain ⟨a, vs, rfl, q2, ql, q3, q4, q5, q6⟩ := r; exact ⟨a, vs, rfl, q2, ql, q3, q4, q5, own a rfl (fun _ z => by cases z) q6⟩
  | tw n => obtain ⟨a, rfl, q2, q4, q5, q6⟩ := r; exact ⟨a, rfl, q2, q4, q5, own a rfl (fun _ z => by cases z) q6⟩
/-- as Rel.assign, for what is no slot: the frozen part stays -/
theorem Rel.assign' {e' : List S} {H0 : Hp} (r0 : ∀ a, H0 a = none → c.H0 a = none) (r : Rel K c G H σ e) (rr : RepR K H0 G H σ e ρ v) (hn : ∀ k, ρ ≠ .sl k) (hf : free e i) (h : asg e i ρ = some e') : Rel K c G H (σ.set i (some v)) e' := by
  obtain ⟨t, h1, h2⟩ := hf
  have hi := (List.getElem?_eq_some_iff.mp h1).1
  have hx : ∀ t', e[i]? = some t' → t'.fixd = false := fun t' q => by rw [h1] at q; cases q; exact h2
  have nown : ∀ {a : Addr}, ¬ OwnAt σ e a → ∀ j, j ≠ i → ∀ t, e[j]? = some t → t.own = true → σ[j]? ≠ some (some (.ref a)) := fun hn j _ t q1 q2 q3 => hn ⟨j, t, q1, q2, q3⟩
  cases ρ with
  | d x => cases h; exact r.put hi hx ⟨v, rfl, rr⟩ fun z => by cases z
  | sl k => exact absurd rfl (hn k)
  | tl xs => cases h; obtain ⟨a, vs, rfl, k1, k2, k3, k4, k5⟩ := rr; exact r.put hi hx ⟨a, vs, rfl, k1, k2⟩ fun _ b hb => by cases hb; exact ⟨k3, r0 _ k4, nown k5⟩
  | td ks xs => cases h; obtain ⟨a, vs, rfl, k1, kl, k2, k3, k4, k5⟩ := rr; exact r.put hi hx ⟨a, vs, rfl, k1, kl, k2⟩ fun _ b hb => by cases hb; exact ⟨k3, r0 _ k4, nown k5⟩
  | tw n => cases h; obtain ⟨a, rfl, k1, k3, k4, k5⟩ := rr; exact r.put hi hx ⟨a, rfl, k1⟩ fun _ b hb => by cases hb; exact ⟨k3, r0 _ k4, nown k5⟩
end

/-! ### what is walked -/
def ItOk (K : PySem.W.Frag) (G : Hp) (J : It) (xs : List D) : Prop := ∀ (G' H' : Hp), Same G G' → Same G' H' → (∀ i, i < xs.length → J.go i H') ∧ (∀ i, xs.length ≤ i → J.stop i H') ∧
  ∀ (i : Nat) (v : V) (H'' : Hp), J.yld i H' v H'' → ∃ d G'', (i < xs.length → xs[i]? = some d) ∧ (i < xs.length → RepD K G'' d v) ∧ Same G' G'' ∧ Same H' H'' ∧ Same G'' H'' ∧ ∀ a, G'' a ≠ none → G' a ≠ none ∨ H' a = none
def liftI (K : PySem.W.Frag) (c : C0) (W : WX) (t : TDI) : TI := fun σ H Rk => ∃ (G : Hp) (e : List S) (Qd : List D → List S → Prop) (Xd : XD), Rel K c G H σ e ∧ t Xd e Qd ∧
  (∀ (xs : List D) (e' : List S) (J : It) (G' H' : Hp), Step K c σ G H e G' H' e' → ItOk K G' J xs → Qd xs e' → Rk J H') ∧ KE K c W Xd σ G H e
structure DI (X : Cx) (c : C0) (W : WX) (tg it : Expr) (t : TDI) : Prop where
  pi : PI X tg it (liftI X.K c W t)
theorem PI.imp {X : Cx} {tg it : Expr} {t t' : TI} (h : PI X tg it t) (i : ∀ σ H Q, t' σ H Q → t σ H Q) : PI X tg it t' := ⟨fun pins s σ H Q I q => h.run pins s σ H Q I (i σ H Q q)⟩
/-- any list, tuple, text -/
def iSeq (K : PySem.W.Frag) (tl : TE) : TI := fun σ H Rk => tl σ H fun x H1 => (∃ a, x = .ref a ∧ (∃ xs, SqL K H1 a xs) ∧ Rk (Itl K a) H1) ∨ (∃ a, x = .ref a ∧ (∃ xs, SqT K H1 a xs) ∧ Rk (Itt K a) H1) ∨ ∃ z, x = .str z ∧ Rk (Its z) H1
theorem pi_seq {X : Cx} {tg l : Expr} {tl : TE} (hl : PE X l tl) : PI X tg l (iSeq X.K tl) := by
  refine ⟨fun pins s σ H Rk I h => ?_⟩
  refine thn (hl.run pins s σ H _ I h) fun v s1 ⟨x, H1, I1, r1, q1⟩ => ?_
  rcases q1 with ⟨a, e, ⟨xs, hq⟩, q⟩ | ⟨a, e, ⟨xs, hq⟩, q⟩ | ⟨z, e, q⟩
  · subst e
    cases r1
    obtain ⟨its, rv, p, hz⟩ := I1.list hq
    exact wpAny_pyIter_list p.isList (pi_one (tk := s1.toks) I1 _ (turn_list a _) ⟨_, Heap.get?_push_size _ rfl, rfl, rfl⟩ q)
  · subst e
    cases r1
    obtain ⟨its, rv, p, hz⟩ := I1.tuple hq
    exact wpAny_pyIter_tuple (show s1.heap.IsTuple a its.toArray from p) (pi_one (tk := s1.toks) I1 _ (turn_tuple a _) ⟨_, Heap.get?_push_size _ rfl, rfl, rfl⟩ q)
  · subst e
    obtain ⟨t, rfl⟩ := r1
    cases ha : z.cps.all (· < 128)
    · exact wpAny_pyIter_wide ha (pi_one (tk := s1.toks) I1 _ (turn_str _ z t "str_iterator" (.inr rfl)) ⟨_, Heap.get?_push_size _ rfl, rfl, rfl⟩ q)
    · exact wpAny_pyIter_ascii ha (pi_one (tk := s1.toks) I1 _ (turn_str _ z t "str_ascii_iterator" (.inl rfl)) ⟨_, Heap.get?_push_size _ rfl, rfl, rfl⟩ q)
def chars (z : Str) : List D := z.cps.toList.map fun c => .str ⟨#[c]⟩
def D.items : D → Option (List D)
  | .lst xs => some xs
  | .tup xs => some xs
  | .str z => some (chars z)
  | _ => none
def diSeq (te : TDE) : TDI := fun Xd e Q => te Xd e fun ρ e1 => ∃ d xs, see e1 ρ = some d ∧ d.items = some xs ∧ Q xs (fz e1 ρ)
section
variable {K : PySem.W.Frag}
theorem ext_refl {G H : Hp} (s : Same G H) : Same G G ∧ Same H H ∧ Same G H ∧ ∀ a, G a ≠ none → G a ≠ none ∨ H a = none := ⟨Same.refl _, Same.refl _, s, fun _ h => .inl h⟩
theorem ItOk.lst {G : Hp} {a : Addr} {vs : List V} {xs : List D} (h : G a = some (.lst vs)) (r : RepDs K G xs vs) : ItOk K G (Itl K a) xs := fun G' H' s1 s2 => by
  have hq : SqL K H' a vs := .inl (.inl (s2 _ _ (s1 _ _ h)))
  have hl := r.length
  refine ⟨fun i hi => ⟨vs, vs[i]'(by omega), hq, by simp⟩, fun i hi => ⟨vs, hq, by omega⟩, fun i v H'' y => ?_⟩
  obtain ⟨rfl, y⟩ := y
  have q := y vs hq
  obtain ⟨d, hd, rd⟩ := r.get q
  exact ⟨d, G', fun _ => hd, fun _ => RepD.mono s1 rd, ext_refl s2⟩
theorem ItOk.tup {G : Hp} {a : Addr} {vs : List V} {xs : List D} (h : SqT K G a vs) (r : RepDs K G xs vs) : ItOk K G (Itt K a) xs := fun G' H' s1 s2 => by
  have hq : SqT K H' a vs := Same.seqT s2 (Same.seqT s1 h)
  have hl := r.length
  refine ⟨fun i hi => ⟨vs, vs[i]'(by omega), hq, by simp⟩, fun i hi => ⟨vs, hq, by omega⟩, fun i v H'' y => ?_⟩
  obtain ⟨rfl, y⟩ := y
  have q := y vs hq
  obtain ⟨d, hd, rd⟩ := r.get q
  exact ⟨d, G', fun _ => hd, fun _ => RepD.mono s1 rd, ext_refl s2⟩
theorem ItOk.str {G : Hp} {z : Str} : ItOk K G (Its z) (chars z) := fun G' H' s1 s2 => by
  have hl : (chars z).length = z.cps.size := by simp [chars]
  refine ⟨fun i hi => by rw [hl] at hi; exact hi, fun i hi => by rw [hl] at hi; exact hi, fun i v H'' y => ?_⟩
  obtain ⟨rfl, cc, hc, rfl⟩ := y
  refine ⟨.str ⟨#[cc]⟩, G', fun _ => ?_, fun _ => .str _, ext_refl s2⟩
  simp only [chars, List.getElem?_map, Array.getElem?_toList, hc, Option.map_some]
end
section
variable {X : Cx} {c : C0} {W : WX} {tg l : Expr} {te : TDE}
theorem di_seq (hl : DE X c W l te) : DI X c W tg l (diSeq te) := by
  refine ⟨PI.imp (pi_seq hl.pe) fun σ H Rk ⟨G, e, Qd, Xd, rel, h, hQ, hX⟩ => ?_⟩
  refine ⟨G, e, _, Xd, rel, h, fun ρ e1 v G1 H1 s1 r1 h1 => ?_, hX⟩
  obtain ⟨d, xs, sd, di, h1⟩ := h1
  obtain ⟨G2, s2, rd, _⟩ := Step.asD rel s1 r1 sd
  cases d with
  | lst ys =>
    cases di
    cases rd with
    | @lst a vs _ k1 k2 => exact .inl ⟨a, rfl, ⟨vs, .inl (.inl (s2.rel.gh _ _ k1))⟩, hQ _ _ _ G2 H1 s2 (ItOk.lst k1 k2) h1⟩
  | tup ys =>
    cases di
    cases rd with
    | @tup a vs _ k1 k2 => exact .inr (.inl ⟨a, rfl, ⟨vs, Same.seqT s2.rel.gh k1⟩, hQ _ _ _ G2 H1 s2 (ItOk.tup k1 k2) h1⟩)
  | str z =>
    cases di
    cases rd
    exact .inr (.inr ⟨z, rfl, hQ _ _ _ G2 H1 s2 ItOk.str h1⟩)
  | _ => cases di
/-- range(n) -/
def rangeD (lo : Int) (n : Nat) : List D := (List.range n).map fun i => .int (lo + (i : Nat))
theorem ItOk.rng {K : PySem.W.Frag} {G : Hp} {lo : Int} {n : Nat} : ItOk K G (Itr lo n) (rangeD lo n) := fun G' H' s1 s2 => by
  have hl : (rangeD lo n).length = n := by simp [rangeD]
  refine ⟨fun i hi => by rw [hl] at hi; exact hi, fun i hi => by rw [hl] at hi; exact hi, fun i v H'' y => ?_⟩
  obtain ⟨rfl, rfl⟩ := y
  refine ⟨.int (lo + i), G', fun hi => ?_, fun _ => .int _, ext_refl s2⟩
  rw [hl] at hi
  simp [rangeD, hi]
def diRng1 (te : TDE) : TDI := fun Xd e Q => te Xd e fun ρ e1 => ∃ j, see e1 ρ = some (.int j) ∧ -(2 ^ 62) ≤ j ∧ j < 2 ^ 62 ∧ Q (rangeD 0 j.toNat) e1
theorem di_rng1 {p pos : Pos} (hg : Gl X "range") (hm : X.mg "range" = none) (ha : DE X c W l te) (hs : starEach [l] X.env = [(false, eval l X.env)] := by rfl) (hs2 : starEach (l :: []) X.env = (false, eval l X.env) :: starEach [] X.env := by rfl) :
    DI X c W tg (.Call (.Name "range" p) [l] [] pos) (diRng1 te) := by
  refine ⟨PI.imp (pi_range1 hg hm (pa_cons ha.pe pa_nil hs2) hs) fun σ H Rk ⟨G, e, Qd, Xd, rel, h, hQ, hX⟩ => ?_⟩
  refine ⟨G, e, _, Xd, rel, h, fun ρ e1 v G1 H1 s1 r1 h1 => ?_, hX⟩
  obtain ⟨j, sd, b1, b2, h1⟩ := h1
  have ev := (r1.see s1.rel sd).int
  subst ev
  exact ⟨j, rfl, b1, b2, hQ _ _ _ G1 H1 s1 ItOk.rng h1⟩
end

/-! ### for -/
def forN (t : TGD) (tb : TDS) (Xd : XD) (De : EndsD) : List D → List S → Prop
  | [], e => De.nx e
  | x :: r, e => t x e fun e2 => tb Xd { De with nx := forN t tb Xd De r, ct := forN t tb Xd De r, bk := De.nx } e2
def dFor (ti : TDI) (t : TGD) (tb : TDS) : TDS := fun Xd De e => ti Xd e fun xs e1 => forN t tb Xd De xs e1
section
variable {X : Cx} {c : C0} {W : WX} {tg it : Expr} {ti : TDI} {t : TGD} {tb : TDS} {ts : List Nat} {body : List Stmt} {pos : Pos}
theorem ds_for (hp : PassesOwn (model X.prog X.w) X.A X.env X.xe) (hc : X.calm = true) (hi : DI X c W tg it ti) (hg : DG X c tg ts t) (hb : DSs X c W body tb) (hs : ∀ x, foldedSetIterable it X.env x = pure x := by intro _; rfl) :
    DS X c W (.For tg it body [] pos) (dFor ti t tb) := by
  refine ⟨PS.imp (ps_for hp hc hi.pi hg.pg hb.pss hs) fun Dx σ H ⟨G, e, De, Xd, rel, h, f⟩ => ?_⟩
  refine ⟨G, e, _, Xd, rel, h, fun xs e1 J G1 H1 s1 ok h1 => ?_, f.ke rel⟩
  refine ⟨fun i m σ' H' => ∃ G' e', Rel X.K c G' H' σ' e' ∧ Same G1 G' ∧ m = xs.length - i ∧ i ≤ xs.length ∧ forN t tb Xd De (xs.drop i) e', ⟨_, G1, e1, s1.rel, Same.refl _, rfl, Nat.zero_le _, h1⟩, ?_⟩
  rintro i m σ2 H2 ⟨G2, e2, r2, sg, rfl, hi, h2⟩
  obtain ⟨ok1, ok2, ok3⟩ := ok G2 H2 sg r2.gh
  by_cases hlt : i < xs.length
  · refine .inr ⟨ok1 i hlt, fun σ' H' => ∃ G' e', Rel X.K c G' H' σ' e' ∧ Same G1 G' ∧ forN t tb Xd De (xs.drop (i + 1)) e', fun σ' H' ⟨G', e', q1, q2, q3⟩ => ⟨xs.length - (i + 1), by omega, G', e', q1, q2, rfl, hlt, q3⟩, fun v H3 y => ?_⟩
    obtain ⟨d, G3, hd, rd, k1, k2, k3, k4⟩ := ok3 i v H3 y
    have hd := hd hlt
    have rd := rd hlt
    have st := Step.ext r2 k2 k1 k3 k4
    have hx : xs.drop i = d :: xs.drop (i + 1) := by
      rw [List.drop_eq_getElem_cons hlt]
      congr 1
      rw [List.getElem?_eq_getElem hlt] at hd
      exact Option.some.inj hd
    rw [hx] at h2
    refine ⟨G3, e2, d, _, st.rel, rd, h2, fun σ4 e4 r4 _ _ _ q4 => ?_⟩
    have sg4 : Same G G3 := s1.sg.trans (sg.trans k1)
    refine ⟨G3, e4, _, Xd, r4, q4, ⟨fun σ' G' H' e' r q h' => ⟨G', e', r, (sg.trans k1).trans q, h'⟩, (f.mono sg4).rt, (f.mono sg4).nx, fun σ' G' H' e' r q h' => ⟨G', e', r, (sg.trans k1).trans q, h'⟩, (f.mono sg4).xx⟩⟩
  · have e : i = xs.length := by omega
    subst e
    refine .inl ⟨ok2 _ (Nat.le_refl _), ?_⟩
    rw [List.drop_length] at h2
    exact f.nx σ2 G2 H2 e2 r2 (s1.sg.trans sg) h2
end
end L3

/-! L3: two names at once, comprehensions -/
namespace L3
open PySem PySem.Spec PyProof.Rows L2

theorem asg_free {e e' : List S} {i j : Nat} {ρ : R} (hn : ∀ k, ρ ≠ .sl k) (hij : i ≠ j) (h : asg e i ρ = some e') (f : free e j) : free e' j := by
  obtain ⟨t, h1, h2⟩ := f
  have he : ∃ t', e' = e.set i t' := by
    cases ρ <;> first | (exact absurd rfl (hn _)) | (simp only [asg, Option.some.injEq] at h; exact ⟨_, h.symm⟩)
  obtain ⟨t', rfl⟩ := he
  exact ⟨t, by rw [List.getElem?_set_ne hij]; exact h1, h2⟩
section
variable {X : Cx} {c : C0} {W : WX} {a b : Expr} {ta tb : TDE} {pos : Pos}
theorem ds_par {i j : Nat} {x y : Str} {px py pt : Pos} {kt k2 pt2} (hc : X.calm = true) (hN : X.N.Nodup) (ha : DE X c W a ta) (hb : DE X c W b tb) (hi : X.N[i]? = some x := by rfl) (hj : X.N[j]? = some y := by rfl) (hij : i ≠ j := by decide)
    (hx : X.env.scope.names.lookup x = some .local := by rfl) (hy : X.env.scope.names.lookup y = some .local := by rfl)
    (hw : swappedStores [.Tuple [.Name x px, .Name y py] kt pt] (.Tuple [a, b] k2 pt2) X.env = pure (some [x, y]) := by rfl)
    (hs : swapsWithSole [.Tuple [.Name x px, .Name y py] kt pt] (.Tuple [a, b] k2 pt2) pos.line X.env = pure false := by rfl) (h1 : starEach (a :: [b]) X.env = (false, eval a X.env) :: starEach [b] X.env := by rfl) (h2 : starEach (b :: []) X.env = (false, eval b X.env) :: starEach [] X.env := by rfl) :
    DS X c W (.Assign [.Tuple [.Name x px, .Name y py] kt pt] (.Tuple [a, b] k2 pt2) pos) (dPar i j ta tb) := by
  refine ⟨PS.imp (ps_par hc hN hi hj hij hx hy (pa_cons ha.pe (pa_cons hb.pe pa_nil h2) h1) hw hs) fun Dx σ H ⟨G, e, De, Xd, rel, h, f⟩ => ?_⟩
  refine ⟨G, e, _, Xd, rel, h, fun ρ1 e1 v1 G1 H1 s1 r1 h1 => ?_, f.ke rel⟩
  refine ⟨G1, e1, _, Xd, s1.rel, h1, fun ρ2 e2 v2 G2 H2 s2 r2 h2 => ?_, (f.mono s1.sg).ke s1.rel⟩
  obtain ⟨n1, n2, f1, f2, e3, e4, a1, a2, h2⟩ := h2
  refine ⟨v1, v2, rfl, ?_⟩
  have r1' := r1.step s2
  have r3 := Rel.assign' (fun _ z => rel.fresh0 z) s2.rel r1' n1 f1 a1
  have r2s : RepR X.K H G2 H2 (σ.set i (some v1)) e3 ρ2 v2 := by
    refine (r2.back s1).stored n2 n1 a1 fun a hv2 hv1 m1 m2 => ?_
    subst hv1 hv2
    have st1 : ∃ o, H1 a = some o := by
      cases ρ1 with
      | d z => exact absurd rfl (m1 z)
      | sl k => exact absurd rfl (n1 k)
      | tl xs => obtain ⟨b, vs, hb, k1, _⟩ := r1; cases hb; exact ⟨_, k1⟩
      | td ks xs => obtain ⟨b, vs, hb, k1, _⟩ := r1; cases hb; exact ⟨_, k1⟩
      | tw n => obtain ⟨b, hb, k1, _⟩ := r1; cases hb; obtain ⟨_, _, _, _, k1, _⟩ := k1; exact ⟨_, k1⟩
    obtain ⟨o, ho⟩ := st1
    cases ρ2 with
    | d z => exact m2 z rfl
    | sl k => exact n2 k rfl
    | tl xs => obtain ⟨b, vs, hb, _, _, _, k1, _⟩ := r2; cases hb; rw [ho] at k1; cases k1
    | td ks xs => obtain ⟨b, vs, hb, _, _, _, _, k1, _⟩ := r2; cases hb; rw [ho] at k1; cases k1
    | tw n => obtain ⟨b, hb, _, _, k1, _⟩ := r2; cases hb; rw [ho] at k1; cases k1
  have r4 := Rel.assign' (fun _ z => rel.fresh0 z) r3 r2s n2 (asg_free n1 hij a1 f2) a2
  exact f.nx _ G2 H2 e4 r4 (s1.sg.trans s2.sg) h2
end

/-! ### comprehensions -/
def wipeE (e : List S) : List Nat → List S
  | [] => e
  | v :: vs => (wipeE e vs).set v .no
def backE (e e0 : List S) : List Nat → List S
  | [] => e
  | v :: vs => (backE e e0 vs).set v ((e0[v]?).getD .no)
theorem wipeE_len (e : List S) : ∀ vs : List Nat, (wipeE e vs).length = e.length
  | [] => rfl
  | v :: vs => by unfold wipeE; rw [List.length_set, wipeE_len e vs]
theorem backE_len (e e0 : List S) : ∀ vs : List Nat, (backE e e0 vs).length = e.length
  | [] => rfl
  | v :: vs => by unfold backE; rw [List.length_set, backE_len e e0 vs]
theorem wipeE_at {e : List S} {j : Nat} {t : S} : ∀ {vs : List Nat}, (wipeE e vs)[j]? = some t → (j ∈ vs ∧ t = .no) ∨ (j ∉ vs ∧ e[j]? = some t)
  | [], h => .inr ⟨by simp, h⟩
  | v :: vs, h => by
    unfold wipeE at h
    by_cases z : v = j
    · subst z
      have hl := (List.getElem?_eq_some_iff.mp h).1
      rw [List.length_set] at hl
      rw [List.getElem?_set_self hl] at h
      cases h
      exact .inl ⟨by simp, rfl⟩
    · rw [List.getElem?_set_ne z] at h
      rcases wipeE_at h with ⟨a, b⟩ | ⟨a, b⟩
      · exact .inl ⟨by simp [a], b⟩
      · exact .inr ⟨by simp only [List.mem_cons, not_or]; exact ⟨fun q => z q.symm, a⟩, b⟩
theorem wipeE_out {e : List S} {j : Nat} : ∀ {vs : List Nat}, j ∉ vs → (wipeE e vs)[j]? = e[j]?
  | [], _ => rfl
  | v :: vs, h => by
    unfold wipeE
    rw [List.mem_cons, not_or] at h
    rw [List.getElem?_set_ne fun z => h.1 z.symm]
    exact wipeE_out h.2
theorem wipe_at {σ : St} {j : Nat} : ∀ {vs : List Nat}, j ∉ vs → (wipe σ vs)[j]? = σ[j]?
  | [], _ => rfl
  | v :: vs, h => by
    unfold wipe
    rw [List.mem_cons, not_or] at h
    rw [List.getElem?_set_ne fun z => h.1 z.symm]
    exact wipe_at h.2
theorem backE_at {e e0 : List S} {j : Nat} {t : S} : ∀ {vs : List Nat}, (backE e e0 vs)[j]? = some t → (j ∈ vs ∧ t = (e0[j]?).getD .no) ∨ (j ∉ vs ∧ e[j]? = some t)
  | [], h => .inr ⟨by simp, h⟩
  | v :: vs, h => by
    unfold backE at h
    by_cases z : v = j
    · subst z
      have hl := (List.getElem?_eq_some_iff.mp h).1
      rw [List.length_set] at hl
      rw [List.getElem?_set_self hl] at h
      cases h
      exact .inl ⟨by simp, rfl⟩
    · rw [List.getElem?_set_ne z] at h
      rcases backE_at h with ⟨a, b⟩ | ⟨a, b⟩
      · exact .inl ⟨by simp [a], b⟩
      · exact .inr ⟨by simp only [List.mem_cons, not_or]; exact ⟨fun q => z q.symm, a⟩, b⟩
theorem backE_out {e e0 : List S} {j : Nat} : ∀ {vs : List Nat}, j ∉ vs → (backE e e0 vs)[j]? = e[j]?
  | [], _ => rfl
  | v :: vs, h => by
    unfold backE
    rw [List.mem_cons, not_or] at h
    rw [List.getElem?_set_ne fun z => h.1 z.symm]
    exact backE_out h.2
section
variable {K : PySem.W.Frag} {c : C0} {σ σ' : St} {G H G1 H1 G2 H2 : Hp} {e e1 e2 : List S} {vs : List Nat}
theorem own_of {s : S} (h : s.fixd = true) : s.own = true := S.own_of_fixd h
/-- the slots vs change, none of one's own there, before or behind -/
theorem Rel.swap (r : Rel K c G H σ e) (hl : σ'.length = σ.length) (hle : e1.length = e.length) (ho : okV e vs) (ho1 : okV e1 vs) (hs : ∀ j, j ∉ vs → σ'[j]? = σ[j]?) (he : ∀ j, j ∉ vs → e1[j]? = e[j]?)
    (hn : ∀ j ∈ vs, ∀ s, e1[j]? = some s → SlotR K G H s (σ'[j]?).join) : Rel K c G H σ' e1 := by
  have at_ : ∀ (j : Nat) (t : S), e1[j]? = some t → t.own = true → j ∉ vs ∧ e[j]? = some t ∧ σ'[j]? = σ[j]? := fun j t h o => by
    by_cases z : j ∈ vs
    · have := ho1 j z t h; rw [o] at this; cases this
    · exact ⟨z, by rw [← he j z]; exact h, hs j z⟩
  refine ⟨by rw [hl, hle]; exact r.len, fun j t h => ?_, r.gh, r.keep, r.gsub, r.gnew, fun a ⟨j, t, h1, h2, h3⟩ => ?_, fun j k t u a h1 h2 h3 h4 h5 h6 => ?_, fun j a h => ?_, by rw [hle]; exact r.ln, r.tabs, r.gt⟩
  · by_cases z : j ∈ vs
    · exact hn j z t h
    · rw [hs j z]; exact r.sl j t (by rw [← he j z]; exact h)
  · obtain ⟨_, q1, q2⟩ := at_ j t h1 h2
    exact r.own a ⟨j, t, q1, h2, by rw [← q2]; exact h3⟩
  · obtain ⟨_, q1, q2⟩ := at_ j t h1 h3
    obtain ⟨_, p1, p2⟩ := at_ k u h2 h4
    exact r.inj j k t u a q1 p1 h3 h4 (by rw [← q2]; exact h5) (by rw [← p2]; exact h6)
  · obtain ⟨q1, t, q2, q3⟩ := r.rfs j a h
    have z : j ∉ vs := fun z => by have := ho j z t q2; rw [own_of q3] at this; cases this
    exact ⟨by rw [hs j z]; exact q1, t, by rw [he j z]; exact q2, q3⟩
theorem OwnAt.swap (ho1 : okV e1 vs) (hs : ∀ j, j ∉ vs → σ'[j]? = σ[j]?) (he : ∀ j, j ∉ vs → e1[j]? = e[j]?) {a : Addr} (h : OwnAt σ' e1 a) : OwnAt σ e a := by
  obtain ⟨j, t, h1, h2, h3⟩ := h
  have z : j ∉ vs := fun z => by have := ho1 j z t h1; rw [h2] at this; cases this
  exact ⟨j, t, by rw [← he j z]; exact h1, h2, by rw [← hs j z]; exact h3⟩
theorem okV_wipe (e : List S) (vs : List Nat) : okV (wipeE e vs) vs := fun v hv t h => by
  rcases wipeE_at h with ⟨_, rfl⟩ | ⟨z, _⟩
  · rfl
  · exact absurd hv z
theorem Rel.wipe (r : Rel K c G H σ e) (ho : okV e vs) : Rel K c G H (L2.wipe σ vs) (wipeE e vs) :=
  r.swap (wipe_length σ vs) (wipeE_len e vs) ho (okV_wipe e vs) (fun j h => wipe_at h) (fun j h => wipeE_out h) fun j hj s h => by
    rcases wipeE_at h with ⟨_, rfl⟩ | ⟨z, _⟩
    · trivial
    · exact absurd hj z
/-- a step under other slots at vs -/
theorem Step.swap {σ2 : St} {ea eb : List S} (st : Step K c σ2 G1 H1 ea G2 H2 eb) (hl : σ'.length = σ2.length) (hle : e2.length = eb.length) (hoa : okV ea vs) (ho1 : okV e1 vs) (hob : okV eb vs) (ho2 : okV e2 vs)
    (hs : ∀ j, j ∉ vs → σ'[j]? = σ2[j]?) (he1 : ∀ j, j ∉ vs → e1[j]? = ea[j]?) (he2 : ∀ j, j ∉ vs → e2[j]? = eb[j]?) (hn : ∀ j ∈ vs, ∀ s, e2[j]? = some s → SlotR K G2 H2 s (σ'[j]?).join) : Step K c σ' G1 H1 e1 G2 H2 e2 where
  rel := st.rel.swap hl hle hob ho2 hs he2 hn
  sg := st.sg
  fr := fun a o h n t => st.fr a o h (fun z => n (OwnAt.swap hoa (fun j hj => (hs j hj).symm) (fun j hj => (he1 j hj).symm) z)) t
  gn := fun a h => (st.gn a h).imp_right fun z => z.imp_right fun q => OwnAt.swap hoa (fun j hj => (hs j hj).symm) (fun j hj => (he1 j hj).symm) q
  ow := fun a h => OwnAt.swap hoa (fun j hj => (hs j hj).symm) (fun j hj => (he1 j hj).symm) (st.ow a (OwnAt.swap ho2 hs he2 h))
  th := st.th
  old := st.old
end
abbrev WF : WX := fun _ _ _ _ => False
abbrev XF : XD := fun _ _ => False
theorem ke_false {K : PySem.W.Frag} {c : C0} {W : WX} {σ : St} {G H : Hp} {e : List S} : KE K c W XF σ G H e := fun _ _ _ _ _ _ _ _ h => h.elim
structure DTs (X : Cx) (c : C0) (W : WX) (ifs : List Expr) (t : TDT) : Prop where
  pts : PTs X ifs (liftT X.K c W t)
def dYes : TDT := fun _ e Q => Q true e
theorem PTs.imp {X : Cx} {e : List Expr} {t t' : TT} (h : PTs X e t) (i : ∀ σ H Q, t' σ H Q → t σ H Q) : PTs X e t' := ⟨fun pins s σ H Q I q => h.run pins s σ H Q I (i σ H Q q)⟩
theorem dts_nil {X : Cx} {c : C0} {W : WX} : DTs X c W [] dYes := ⟨PTs.imp pts_nil fun σ H Q ⟨G, e, Qd, Xd, rel, h, hQ, hX⟩ => hQ true e G H (Step.refl rel) h⟩
theorem dts_one {X : Cx} {c : C0} {W : WX} {cx : Expr} {t : TDT} (h : DT X c W cx t) : DTs X c W [cx] t := ⟨pts_one h.pt⟩

/-- what a turn makes of what was made so far -/
abbrev TBD := List D → List S → (List D → List S → Prop) → Prop
/-- the turns of a comprehension: e the slots (the block's own wiped), acc what is made so far -/
def lcN (t : TGD) (tt : TDT) (bd : TBD) (vs : List Nat) (Q : List D → List S → Prop) : List D → List D → List S → Prop
  | [], acc, e => Q acc e
  | x :: r, acc, e => t x e fun e2 => tt XF e2 fun b e3 => if b = true then bd acc e3 fun acc' e4 => okV e4 vs ∧ lcN t tt bd vs Q r acc' (wipeE e4 vs) else okV e3 vs ∧ lcN t tt bd vs Q r acc (wipeE e3 vs)
def bdE (te : TDE) : TBD := fun acc e k => te XF e fun ρ e4 => ∃ d, see e4 ρ = some d ∧ acc.length < 1000000 ∧ k (acc ++ [d]) (fz e4 ρ)
def bdI (ti1 : TDI) (t1 : TGD) (tt1 : TDT) (te : TDE) (vs1 : List Nat) : TBD := fun acc e k => ti1 XF e fun ys e4 => okV e4 vs1 ∧ lcN t1 tt1 (bdE te) vs1 k ys acc (wipeE e4 vs1)
def dLc (ti : TDI) (t : TGD) (tt : TDT) (te : TDE) (vs : List Nat) : TDE := fun Xd e Q => ti Xd e fun xs e1 => okV e1 vs ∧ lcN t tt (bdE te) vs (fun acc e' => Q (.tl acc) (backE e' e1 vs)) xs [] (wipeE e1 vs)
def dLc2 (ti : TDI) (t : TGD) (tt : TDT) (ti1 : TDI) (t1 : TGD) (tt1 : TDT) (te : TDE) (vs vs1 : List Nat) : TDE := fun Xd e Q => ti Xd e fun xs e1 => okV e1 vs ∧ lcN t tt (bdI ti1 t1 tt1 te vs1) vs (fun acc e' => Q (.tl acc) (backE e' e1 vs)) xs [] (wipeE e1 vs)
theorem wipe_in {τ : St} {vs : List Nat} {j : Nat} (z : j ∈ vs) (hj : j < τ.length) : (wipe τ vs)[j]? = some none := by
  induction vs with
  | nil => cases z
  | cons v us ih =>
    unfold wipe
    by_cases q : v = j
    · subst q; rw [List.getElem?_set_self (by rw [wipe_length]; exact hj)]
    · rw [List.getElem?_set_ne q]
      exact ih (by rcases List.mem_cons.mp z with w | w; exact absurd w.symm q; exact w)
theorem only_wipe {ts vs : List Nat} {σ σ2 : St} (o : Only ts (wipe σ vs) σ2) (h : ∀ j ∈ ts, j ∈ vs) : wipe σ2 vs = wipe σ vs := by
  apply List.ext_getElem?
  intro j
  by_cases z : j ∈ vs
  · -- both none there
    have k : ∀ (τ : St), j < τ.length → (wipe τ vs)[j]? = some none := fun τ hj => by
      have : ∀ us : List Nat, j ∈ us → (wipe τ us)[j]? = some none := fun us => by
        induction us with
        | nil => intro h; cases h
        | cons v us ih =>
          intro hm
          unfold wipe
          by_cases q : v = j
          · subst q; rw [List.getElem?_set_self (by rw [wipe_length]; exact hj)]
          · rw [List.getElem?_set_ne q]
            exact ih (by rcases List.mem_cons.mp hm with w | w; exact absurd w.symm q; exact w)
      exact this vs z
    by_cases hj : j < σ.length
    · rw [k σ hj, k σ2 (by rw [o.1, wipe_length]; exact hj)]
    · rw [List.getElem?_eq_none (by rw [wipe_length, o.1, wipe_length]; omega), List.getElem?_eq_none (by rw [wipe_length]; omega)]
  · rw [wipe_at z, o.2 j fun q => z (h j q)]

/-- kept since a ground, but for the own things ow -/
structure Ext0 (tb : List Addr) (Gb Hb : Hp) (ow : Addr → Prop) (G H : Hp) : Prop where
  sg : Same Gb G
  fr : ∀ a o, Hb a = some o → ¬ ow a → a ∉ tb → H a = some o
  gn : ∀ a, G a ≠ none → Gb a ≠ none ∨ Hb a = none ∨ ow a
  th : ∀ a, Hb a ≠ none → H a ≠ none
/-- the state inside a comprehension whose new list is at L -/
structure LS (K : PySem.W.Frag) (c : C0) (Gb Hb : Hp) (ow : Addr → Prop) (L : Addr) (n : Nat) (σ : St) (G H : Hp) (e : List S) (acc : List D) (avs : List V) : Prop where
  ext : Ext0 c.tb Gb Hb ow G H
  rel : Rel K c G H σ e
  own : ∀ a, OwnAt σ e a → ow a
  hL : H L = some (.lst avs)
  gL : G L = none
  rd : RepDs K G acc avs
  len : e.length = n
section
variable {K : PySem.W.Frag} {c : C0} {Gb Hb : Hp} {ow : Addr → Prop} {L : Addr} {n : Nat} {σ σ' : St} {G H G1 H1 : Hp} {e e1 : List S} {acc : List D} {avs : List V} {vs : List Nat}
theorem LS.step (ls : LS K c Gb Hb ow L n σ G H e acc avs) (nL : ¬ ow L) (bL : Hb L = none) (st : Step K c σ G H e G1 H1 e1) : LS K c Gb Hb ow L n σ G1 H1 e1 acc avs where
  ext := ⟨ls.ext.sg.trans st.sg, fun a o h k t => st.fr a o (ls.ext.fr a o h k t) (fun z => k (ls.own a z)) t, fun a h => by
    rcases st.gn a h with q | q | q
    · exact ls.ext.gn a q
    · cases z : Hb a with
      | none => exact .inr (.inl rfl)
      | some o => exact absurd q (ls.ext.th a (by rw [z]; simp))
    · exact .inr (.inr (ls.own a q)), fun a h => st.th a (ls.ext.th a h)⟩
  rel := st.rel
  own := fun a h => ls.own a (st.ow a h)
  hL := st.fr L _ ls.hL (fun z => nL (ls.own L z)) (ls.rel.tabs.ne fun ps z => by rw [ls.hL] at z; cases z)
  gL := by
    cases q : G1 L with
    | none => rfl
    | some o =>
      rcases st.gn L (by rw [q]; simp) with z | z | z
      · exact absurd ls.gL z
      · rw [ls.hL] at z; cases z
      · exact absurd (ls.own L z) nL
  rd := RepDs.mono st.sg ls.rd
  len := by rw [← st.rel.len, ls.rel.len]; exact ls.len
/-- other slots at vs -/
theorem LS.swap (ls : LS K c Gb Hb ow L n σ G H e acc avs) (hl : σ'.length = σ.length) (hle : e1.length = e.length) (ho : okV e vs) (ho1 : okV e1 vs) (hs : ∀ j, j ∉ vs → σ'[j]? = σ[j]?) (he : ∀ j, j ∉ vs → e1[j]? = e[j]?)
    (hn : ∀ j ∈ vs, ∀ s, e1[j]? = some s → SlotR K G H s (σ'[j]?).join) : LS K c Gb Hb ow L n σ' G H e1 acc avs :=
  ⟨ls.ext, ls.rel.swap hl hle ho ho1 hs he hn, fun a h => ls.own a (OwnAt.swap ho1 hs he h), ls.hL, ls.gL, ls.rd, by rw [hle]; exact ls.len⟩
theorem LS.wipe (ls : LS K c Gb Hb ow L n σ G H e acc avs) (ho : okV e vs) : LS K c Gb Hb ow L n (L2.wipe σ vs) G H (wipeE e vs) acc avs :=
  ls.swap (wipe_length σ vs) (wipeE_len e vs) ho (okV_wipe e vs) (fun j h => wipe_at h) (fun j h => wipeE_out h) fun j hj s h => by
    rcases wipeE_at h with ⟨_, rfl⟩ | ⟨z, _⟩
    · trivial
    · exact absurd hj z
/-- the list grows -/
theorem LS.put {d : D} {v : V} (ls : LS K c Gb Hb ow L n σ G H e acc avs) (nL : ¬ ow L) (bL : Hb L = none) (cL : c.H0 L = none) (rd : RepD K G d v) : LS K c Gb Hb ow L n σ G (upd H L (.lst (avs ++ [v]))) e (acc ++ [d]) (avs ++ [v]) where
  ext := ⟨ls.ext.sg, fun a o h k t => by
      have hne : a ≠ L := fun z => by subst z; rw [bL] at h; cases h
      rw [upd_ne hne]; exact ls.ext.fr a o h k t, ls.ext.gn, fun a h => by
      by_cases z : a = L
      · subst z; rw [upd_same]; simp
      · rw [upd_ne z]; exact ls.ext.th a h⟩
  rel := ⟨ls.rel.len, fun j s h => (ls.rel.sl j s h).mono (Same.refl _) fun a o q1 q2 q3 => by
      have hne : a ≠ L := fun z => by
        subst z
        refine nL (ls.own a ⟨j, s, h, q1, ?_⟩)
        cases w : σ[j]? with
        | none => rw [w] at q2; cases q2
        | some x => rw [w] at q2; cases q2; rfl
      rw [upd_ne hne]; exact q3, fun a o q => by
      have hne : a ≠ L := fun z => by subst z; rw [ls.gL] at q; cases q
      rw [upd_ne hne]; exact ls.rel.gh a o q, fun a o q1 q2 t => by
      have hne : a ≠ L := fun z => by subst z; rw [cL] at q1; cases q1
      rw [upd_ne hne]; exact ls.rel.keep a o q1 q2 t, ls.rel.gsub, ls.rel.gnew, ls.rel.own, ls.rel.inj, ls.rel.rfs, ls.rel.ln, ls.rel.tabs.upd ls.hL (fun ps z => nomatch z) (fun φ z => nomatch z), ls.rel.gt⟩
  own := ls.own
  hL := upd_same
  gL := ls.gL
  rd := ls.rd.append (.cons rd .nil)
  len := ls.len
theorem LS.len_acc (ls : LS K c Gb Hb ow L n σ G H e acc avs) : acc.length = avs.length := ls.rd.length
end
theorem wipe_wipe {σ σ2 : St} {vs vs1 : List Nat} (h : wipe σ2 vs = wipe σ vs) (hv : ∀ j ∈ vs1, j ∈ vs) : wipe (wipe σ2 vs1) vs = wipe σ vs := by
  rw [← h]
  apply List.ext_getElem?
  intro j
  by_cases z : j ∈ vs
  · by_cases hj : j < σ2.length
    · rw [wipe_in z hj, wipe_in z (by rw [wipe_length]; exact hj)]
    · rw [List.getElem?_eq_none (by rw [wipe_length, wipe_length]; omega), List.getElem?_eq_none (by rw [wipe_length]; omega)]
  · rw [wipe_at z, wipe_at z, wipe_at fun q => z (hv j q)]
/-- THE LOOP of a comprehension -/
theorem lc_loop {K : PySem.W.Frag} {c : C0} {Gb Hb : Hp} {ow : Addr → Prop} {L : Addr} {n : Nat} (nL : ¬ ow L) (bL : Hb L = none) {t : TGD} {tt : TDT} {bd : TBD} {vs ts : List Nat} (hts : ∀ j ∈ ts, j ∈ vs) {σ : St} {G1 H1 : Hp} {e1 : List S} {xs : List D} {J : It} {acc0 : List D} {avs0 : List V}
    (ls : LS K c Gb Hb ow L n σ G1 H1 e1 acc0 avs0) (hv : okV e1 vs) (ok : ItOk K G1 J xs) {Qd : List D → List S → Prop} (h : lcN t tt bd vs Qd xs acc0 (wipeE e1 vs)) (B : St → Hp → (Hp → Prop) → Prop) (P : Hp → Prop)
    (hB : ∀ (σ2 : St) (G' H' : Hp) (e' : List S) (acc : List D) (avs : List V) (k : List D → List S → Prop) (Nx : Hp → Prop), LS K c Gb Hb ow L n σ2 G' H' e' acc avs → wipe σ2 vs = wipe σ vs → bd acc e' k →
      (∀ (σ3 : St) (G'' H'' : Hp) (e'' : List S) (acc' : List D) (avs' : List V), LS K c Gb Hb ow L n σ3 G'' H'' e'' acc' avs' → Same G' G'' → wipe σ3 vs = wipe σ vs → k acc' e'' → Nx H'') → B σ2 H' Nx)
    (hP : ∀ (G' H' : Hp) (e' : List S) (acc : List D) (avs : List V), LS K c Gb Hb ow L n (wipe σ vs) G' H' e' acc avs → Same G1 G' → okV e' vs → Qd acc e' → P H') :
    ∃ Wi : Nat → Nat → Hp → Prop, (∃ m, Wi 0 m H1) ∧ ∀ i m H, Wi i m H → (J.stop i H ∧ P H) ∨ (J.go i H ∧ ∃ Nx : Hp → Prop, (∀ H', Nx H' → ∃ m', m' < m ∧ Wi (i + 1) m' H') ∧ ∀ x H', J.yld i H x H' → liftG K c ts t x (wipe σ vs) H' fun σ2 H2 => wipe σ2 vs = wipe σ vs ∧
      liftT K c WF tt σ2 H2 fun b H3 => if b = true then B σ2 H3 Nx else Nx H3) := by
  let I : Nat → Hp → Prop := fun i H' => ∃ (G' : Hp) (e' : List S) (acc : List D) (avs : List V), LS K c Gb Hb ow L n (wipe σ vs) G' H' e' acc avs ∧ Same G1 G' ∧ okV e' vs ∧ lcN t tt bd vs Qd (xs.drop i) acc e'
  refine ⟨fun i m H' => m = xs.length - i ∧ i ≤ xs.length ∧ I i H', ⟨_, rfl, Nat.zero_le _, G1, _, acc0, avs0, ls.wipe hv, Same.refl _, okV_wipe e1 vs, h⟩, ?_⟩
  rintro i m H2 ⟨rfl, hi, G2, e2, acc, avs, l2, sg, ov, h2⟩
  obtain ⟨ok1, ok2, ok3⟩ := ok G2 H2 sg l2.rel.gh
  by_cases hlt : i < xs.length
  · refine .inr ⟨ok1 i hlt, I (i + 1), fun H' q => ⟨xs.length - (i + 1), by omega, rfl, hlt, q⟩, fun v H3 y => ?_⟩
    obtain ⟨d, G3, hd, rd3, k1, k2, k3, k4⟩ := ok3 i v H3 y
    have hd := hd hlt
    have rd3 := rd3 hlt
    have hx : xs.drop i = d :: xs.drop (i + 1) := by
      rw [List.drop_eq_getElem_cons hlt]
      congr 1
      rw [List.getElem?_eq_getElem hlt] at hd
      exact Option.some.inj hd
    rw [hx] at h2
    have l3 := l2.step nL bL (Step.ext l2.rel k2 k1 k3 k4)
    refine ⟨G3, e2, d, _, l3.rel, rd3, h2, fun σ4 e4 r4 o4 p4 b4 q4 => ?_⟩
    have hw4 := only_wipe o4 hts
    refine ⟨hw4, ?_⟩
    have s4 : ∀ j, j ∉ vs → σ4[j]? = (wipe σ vs)[j]? := fun j hj => o4.2 j fun z => hj (hts j z)
    have e42 : ∀ j, j ∉ vs → e4[j]? = e2[j]? := fun j hj => p4.2 j fun z => hj (hts j z)
    have ov4 : okV e4 vs := fun j hj s h => by
      by_cases z : j ∈ ts
      · exact b4 j z s h
      · rw [p4.2 j z] at h
        exact ov j hj s h
    have l4 : LS K c Gb Hb ow L n σ4 G3 H3 e4 acc avs := ⟨l3.ext, r4, fun a z => l3.own a (OwnAt.swap ov4 s4 e42 z), l3.hL, l3.gL, l3.rd, by rw [p4.1]; exact l3.len⟩
    -- from behind a turn on, under the wiped slots
    have again : ∀ {σ5 : St} {G5 H5 : Hp} {e5 : List S} {acc5 : List D} {avs5 : List V}, LS K c Gb Hb ow L n σ5 G5 H5 e5 acc5 avs5 → Same G1 G5 → wipe σ5 vs = wipe σ vs → okV e5 vs → lcN t tt bd vs Qd (xs.drop (i + 1)) acc5 (wipeE e5 vs) → I (i + 1) H5 := fun {σ5 G5 H5 e5 acc5 avs5} l5 g5 w5 o5 q5 => by
      have l6 := l5.wipe o5
      rw [w5] at l6
      exact ⟨G5, _, acc5, avs5, l6, g5, okV_wipe e5 vs, q5⟩
    refine ⟨G3, e4, _, XF, r4, q4, fun b e5 G5 H5 s5 h5 => ?_, ke_false⟩
    have l5 := l4.step nL bL s5
    have g5 : Same G1 G5 := sg.trans (k1.trans s5.sg)
    cases b with
    | false =>
      show if false = true then B σ4 H5 (I (i + 1)) else I (i + 1) H5
      rw [if_neg Bool.false_ne_true] at h5 ⊢
      exact again l5 g5 hw4 h5.1 h5.2
    | true =>
      show if true = true then B σ4 H5 (I (i + 1)) else I (i + 1) H5
      rw [if_pos rfl] at h5 ⊢
      exact hB σ4 G5 H5 e5 acc avs _ _ l5 hw4 h5 fun σ6 G6 H6 e6 acc6 avs6 l6 g6 w6 q6 => again l6 (g5.trans g6) w6 q6.1 q6.2
  · have e : i = xs.length := by omega
    subst e
    refine .inl ⟨ok2 _ (Nat.le_refl _), ?_⟩
    rw [List.drop_length] at h2
    exact hP G2 H2 e2 acc avs l2 sg ov h2
section
variable {K : PySem.W.Frag} {c : C0} {W : WX} {ti ti1 : TDI} {t t1 : TGD} {tt tt1 : TDT} {te : TDE} {vs vs1 ts ts1 : List Nat} {σ : St} {H : Hp} {Q : VK}
/-- an element is put behind -/
theorem bdE_run {Gb Hb : Hp} {ow : Addr → Prop} {L : Addr} {n : Nat} (nL : ¬ ow L) (bL : Hb L = none) (cL : c.H0 L = none) {σ2 : St} {G' H' : Hp} {e' : List S} {acc : List D} {avs : List V} {k : List D → List S → Prop} {Nx : Hp → Prop} (l : LS K c Gb Hb ow L n σ2 G' H' e' acc avs) (h : bdE te acc e' k)
    (hk : ∀ (G'' H'' : Hp) (e'' : List S) (acc' : List D) (avs' : List V), LS K c Gb Hb ow L n σ2 G'' H'' e'' acc' avs' → Same G' G'' → k acc' e'' → Nx H'') :
    liftE K c WF te σ2 H' fun y H4 => ∃ acc, H4 L = some (.lst acc) ∧ acc.length < sizeLine ∧ Nx (upd H4 L (.lst (acc ++ [y]))) := by
  refine ⟨G', e', _, XF, l.rel, h, fun ρ e6 v6 G6 H6 s6 r6 h6 => ?_, ke_false⟩
  obtain ⟨d6, sd, hlen, h6⟩ := h6
  obtain ⟨G7, s7, rd7, _⟩ := Step.asD l.rel s6 r6 sd
  have l7 := l.step nL bL s7
  refine ⟨avs, l7.hL, by rw [← l7.len_acc]; exact Nat.lt_of_lt_of_le hlen mil, ?_⟩
  exact hk G7 _ _ _ _ (l7.put nL bL cL rd7) s7.sg h6
/-- the end of all -/
theorem lc_end {e1 : List S} {G1 H1 : Hp} {G : Hp} {e : List S} {L : Addr} {Qd : R → List S → Prop} (rel : Rel K c G H σ e) (s1 : Step K c σ G H e G1 H1 e1) (hL : H1 L = none) (hv : okV e1 vs)
    (hQ : ∀ (ρ : R) (e' : List S) (v : V) (G' H' : Hp), Step K c σ G H e G' H' e' → RepR K H G' H' σ e' ρ v → Qd ρ e' → Q v H') {G2 H2 : Hp} {e2 : List S} {acc : List D} {avs : List V}
    (l : LS K c G1 H1 (OwnAt σ e1) L e1.length (wipe σ vs) G2 H2 e2 acc avs) (o2 : okV e2 vs) (h2 : Qd (.tl acc) (backE e2 e1 vs)) : Q (.ref L) H2 := by
  have oB : okV (backE e2 e1 vs) vs := fun j hj s h => by
    rcases backE_at h with ⟨_, rfl⟩ | ⟨z, _⟩
    · cases q : e1[j]? with
      | none => rfl
      | some s' => exact hv j hj s' q
    · exact absurd hj z
  have lB : LS K c G1 H1 (OwnAt σ e1) L e1.length σ G2 H2 (backE e2 e1 vs) acc avs := l.swap (by rw [wipe_length]) (backE_len e2 e1 vs) o2 oB (fun j hj => (wipe_at hj).symm) (fun j hj => backE_out hj) fun j hj s h => by
    rcases backE_at h with ⟨_, rfl⟩ | ⟨z, _⟩
    · cases q : e1[j]? with
      | none => trivial
      | some s' =>
        have k := s1.rel.sl j s' q
        have o := hv j hj s' q
        cases s' with
        | no => trivial
        | d x => obtain ⟨w, hw, rw'⟩ := k; exact ⟨w, hw, RepD.mono l.ext.sg rw'⟩
        | ol _ => cases o
        | od _ _ => cases o
        | well _ => cases o
        | wl _ => cases o
    · exact absurd hj z
  have sB : Step K c σ G1 H1 e1 G2 H2 (backE e2 e1 vs) := ⟨lB.rel, lB.ext.sg, lB.ext.fr, lB.ext.gn, lB.own, lB.ext.th, s1.rel.tabs⟩
  refine hQ (.tl acc) _ (.ref L) G2 H2 (s1.trans rel sB) (RepR.back s1 (ρ := .tl acc) ⟨L, avs, rfl, l.hL, l.rd, l.gL, hL, fun z => ?_⟩) h2
  exact s1.rel.freshO hL (sB.ow L z)
theorem ls_start {G1 H1 : Hp} {e1 : List S} {L : Addr} (r1 : Rel K c G1 H1 σ e1) (hL : H1 L = none) : LS K c G1 H1 (OwnAt σ e1) L e1.length σ G1 (upd H1 L (.lst [])) e1 [] [] := by
  have st := Step.ext r1 (same_upd (o := .lst []) hL) (Same.refl _) (r1.gh.trans (same_upd hL)) fun a h => .inl h
  exact ⟨⟨st.sg, st.fr, st.gn, st.th⟩, st.rel, fun _ h => h, upd_same, r1.freshG hL, .nil, rfl⟩
theorem lift_lc (hts : ∀ j ∈ ts, j ∈ vs) (h : liftE K c W (dLc ti t tt te vs) σ H Q) : tLc (liftI K c W ti) (liftG K c ts t) (liftT K c WF tt) (liftE K c WF te) vs σ H Q := by
  obtain ⟨G, e, Qd, Xd, rel, h, hQ, hX⟩ := h
  refine ⟨G, e, _, Xd, rel, h, fun xs e1 J G1 H1 s1 ok h1 => ?_, hX⟩
  obtain ⟨hv, h1⟩ := h1
  intro L hL
  have nL := s1.rel.freshO hL
  have cL := s1.rel.fresh0 hL
  exact lc_loop nL hL hts (ls_start s1.rel hL) hv ok h1 (fun σ2 H3 Nx => liftE K c WF te σ2 H3 fun y H4 => ∃ acc, H4 L = some (.lst acc) ∧ acc.length < sizeLine ∧ Nx (upd H4 L (.lst (acc ++ [y]))))
    (fun H => Q (.ref L) H) (fun σ2 G' H' e' acc avs k Nx l w hb hk => bdE_run nL hL cL l hb fun G'' H'' e'' acc' avs' l' sg q => hk σ2 G'' H'' e'' acc' avs' l' sg w q)
    fun G' H' e' acc avs l sg o q => lc_end rel s1 hL hv hQ l o q
theorem lift_lc2 (hts : ∀ j ∈ ts, j ∈ vs) (hts1 : ∀ j ∈ ts1, j ∈ vs1) (hv1 : ∀ j ∈ vs1, j ∈ vs) (h : liftE K c W (dLc2 ti t tt ti1 t1 tt1 te vs vs1) σ H Q) :
    tLc2 (liftI K c W ti) (liftG K c ts t) (liftT K c WF tt) (liftI K c WF ti1) (liftG K c ts1 t1) (liftT K c WF tt1) (liftE K c WF te) vs vs1 σ H Q := by
  obtain ⟨G, e, Qd, Xd, rel, h, hQ, hX⟩ := h
  refine ⟨G, e, _, Xd, rel, h, fun xs e1 J G1 H1 s1 ok h1 => ?_, hX⟩
  obtain ⟨hv, h1⟩ := h1
  intro L hL
  have nL := s1.rel.freshO hL
  have cL := s1.rel.fresh0 hL
  refine lc_loop nL hL hts (ls_start s1.rel hL) hv ok h1 (fun σ2 H3 Nx => liftI K c WF ti1 σ2 H3 fun J1 H4 => ∃ W1 : Nat → Nat → Hp → Prop, (∃ m, W1 0 m H4) ∧ ∀ j k H, W1 j k H →
      (J1.stop j H ∧ Nx H) ∨ (J1.go j H ∧ ∃ Nx1 : Hp → Prop, (∀ H', Nx1 H' → ∃ k', k' < k ∧ W1 (j + 1) k' H') ∧ ∀ x H', J1.yld j H x H' → liftG K c ts1 t1 x (wipe σ2 vs1) H' fun σ3 H5 => wipe σ3 vs1 = wipe σ2 vs1 ∧ liftT K c WF tt1 σ3 H5 fun b H6 =>
        if b = true then liftE K c WF te σ3 H6 fun y H7 => ∃ acc, H7 L = some (.lst acc) ∧ acc.length < sizeLine ∧ Nx1 (upd H7 L (.lst (acc ++ [y]))) else Nx1 H6))
    (fun H => Q (.ref L) H) ?_ fun G' H' e' acc avs l sg o q => lc_end rel s1 hL hv hQ l o q
  intro σ2 G' H' e' acc avs k Nx l w hb hk
  refine ⟨G', e', _, XF, l.rel, hb, fun ys e4 J1 G4 H4 s4 ok4 h4 => ?_, ke_false⟩
  obtain ⟨o4, h4⟩ := h4
  have l4 := l.step nL hL s4
  exact lc_loop nL hL hts1 l4 o4 ok4 h4 (fun σ3 H6 Nx1 => liftE K c WF te σ3 H6 fun y H7 => ∃ acc, H7 L = some (.lst acc) ∧ acc.length < sizeLine ∧ Nx1 (upd H7 L (.lst (acc ++ [y])))) Nx
    (fun σ3 G5 H5 e5 acc5 avs5 k5 Nx5 l5 w5 hb5 hk5 => bdE_run nL hL cL l5 hb5 fun G'' H'' e'' acc' avs' l' sg q => hk5 σ3 G'' H'' e'' acc' avs' l' sg w5 q)
    fun G6 H6 e6 acc6 avs6 l6 sg6 o6 q6 => hk (wipe σ2 vs1) G6 H6 e6 acc6 avs6 l6 (s4.sg.trans sg6) (wipe_wipe w hv1) q6
end
/-! ### the rules -/
section
variable {X : Cx} {c : C0} {W : WX} {elt tg iter tg1 iter1 : Expr} {ifs ifs1 : List Expr} {scope : Scope} {own : List (Str × Nat)} {pos spos : Pos} {ti ti1 : TDI} {t t1 : TGD} {tt tt1 : TDT} {te : TDE} {ts ts1 vs1 : List Nat}
abbrev Blk (X : Cx) (scope : Scope) (s : Shared) (H : Hp) (C : Addr) (cl : List (Str × Addr)) (fp : List Addr) : Cx := X.blk s H scope (compEnvC scope cl C X.env) fp
theorem de_lc (hc : X.calm = true) (hN : X.N.Nodup) (own : List (Str × Nat)) (ok : blkC X.N X.env.scope scope own = true) (hi : DI X c W tg iter ti) (hg : ∀ s H C cl fp, DG (Blk X scope s H C cl fp) c tg ts t) (ht : ∀ s H C cl fp, DTs (Blk X scope s H C cl fp) c WF ifs tt)
    (he : ∀ s H C cl fp, DE (Blk X scope s H C cl fp) c WF elt te) (hts : ∀ j ∈ ts, j ∈ own.map (·.2) := by decide) (hs : ∀ x, foldedSetIterable iter X.env x = pure x := by intro _; rfl) :
    DE X c W (.ListComp elt [⟨tg, iter, ifs, 0⟩] scope pos) (dLc ti t tt te (own.map (·.2))) :=
  ⟨PE.imp (pe_lc hc hN hi.pi (blkOk_by ok) (fun s H C cl fp => (hg s H C cl fp).pg) (fun s H C cl fp => (ht s H C cl fp).pts) (fun s H C cl fp => (he s H C cl fp).pe) hs) fun σ H Q h => lift_lc hts h⟩
theorem de_lc2 (hc : X.calm = true) (hN : X.N.Nodup) (own : List (Str × Nat)) (vs1 : List Nat) (ok : blkC X.N X.env.scope scope own = true) (hi : DI X c W tg iter ti) (hg : ∀ s H C cl fp, DG (Blk X scope s H C cl fp) c tg ts t) (ht : ∀ s H C cl fp, DTs (Blk X scope s H C cl fp) c WF ifs tt)
    (hi1 : ∀ s H C cl fp, DI (Blk X scope s H C cl fp) c WF tg1 iter1 ti1) (hg1 : ∀ s H C cl fp, DG (Blk X scope s H C cl fp) c tg1 ts1 t1) (ht1 : ∀ s H C cl fp, DTs (Blk X scope s H C cl fp) c WF ifs1 tt1)
    (he : ∀ s H C cl fp, DE (Blk X scope s H C cl fp) c WF elt te) (hv : ∀ i ∈ vs1, i ∈ own.map (·.2) := by decide) (hts : ∀ j ∈ ts, j ∈ own.map (·.2) := by decide) (hts1 : ∀ j ∈ ts1, j ∈ vs1 := by decide) (hs : ∀ x, foldedSetIterable iter X.env x = pure x := by intro _; rfl) (hs1 : ∀ env x, foldedSetIterable iter1 env x = pure x := by intro _ _; rfl) :
    DE X c W (.ListComp elt [⟨tg, iter, ifs, 0⟩, ⟨tg1, iter1, ifs1, 0⟩] scope pos) (dLc2 ti t tt ti1 t1 tt1 te (own.map (·.2)) vs1) :=
  ⟨PE.imp (pe_lc2 hc hN hi.pi (blkOk_by ok) hv (fun s H C cl fp => (hg s H C cl fp).pg) (fun s H C cl fp => (ht s H C cl fp).pts) (fun s H C cl fp => (hi1 s H C cl fp).pi) (fun s H C cl fp => (hg1 s H C cl fp).pg) (fun s H C cl fp => (ht1 s H C cl fp).pts) (fun s H C cl fp => (he s H C cl fp).pe) hs hs1) fun σ H Q h => lift_lc2 hts hts1 hv h⟩
/-- name = [..] on one line -/
theorem ds_setLc {i : Nat} {y : Str} {py : Pos} (hc : X.calm = true) (hN : X.N.Nodup) (own : List (Str × Nat)) (ok : blkC X.N X.env.scope scope own = true) (hi : DI X c W tg iter ti) (hg : ∀ s H C cl fp, DG (Blk X scope s H C cl fp) c tg ts t) (ht : ∀ s H C cl fp, DTs (Blk X scope s H C cl fp) c WF ifs tt)
    (he : ∀ s H C cl fp, DE (Blk X scope s H C cl fp) c WF elt te) (hy : X.N[i]? = some y := by rfl) (hyl : X.env.scope.names.lookup y = some .local := by rfl) (hsw : swapsWith (.ListComp elt [⟨tg, iter, ifs, 0⟩] scope pos) (some (.Name y py)) spos.line X.env = pure true := by exact sw_true rfl rfl rfl (by decide +kernel))
    (hts : ∀ j ∈ ts, j ∈ own.map (·.2) := by decide) (hs : ∀ x, foldedSetIterable iter X.env x = pure x := by intro _; rfl) : DS X c W (.Assign [.Name y py] (.ListComp elt [⟨tg, iter, ifs, 0⟩] scope pos) spos) (dSet i (dLc ti t tt te (own.map (·.2)))) :=
  ⟨PS.imp (ps_setLc hc hN hy hyl hsw hi.pi (blkOk_by ok) (fun s H C cl fp => (hg s H C cl fp).pg) (fun s H C cl fp => (ht s H C cl fp).pts) (fun s H C cl fp => (he s H C cl fp).pe) hs) fun Dx σ H h => by
    have k := lift_lc hts (lift_set h)
    exact k⟩
end
end L3

/-! L3: built-in calls, slices, methods of lists, calls of defs, a def's body -/
namespace L3
open PySem PySem.Spec PyProof.Rows L2

/-! ### f(e), f a built-in -/
section
variable {X : Cx} {c : C0} {W : WX} {ex : Expr} {te : TDE} {x : Str} {p pos : Pos} {id T : String} {r : List V → Hp → VK → Prop} {r31 : R31}
theorem de_callB (hc : CallR X (.builtin id) r) (h3 : Un3 X.K (fun x H Q => r [x] H Q) r31) (hg : Gl X x) (hm : X.mg x = none) (hv : bootBuiltins x = some (.builtin id)) (ha : DE X c W ex te) (hn : x ≠ "__name__" := by decide) (hdb : (x == ("__debug__" : Str)) = false := by decide)
    (he : starEach (ex :: []) X.env = (false, eval ex X.env) :: starEach [] X.env := by rfl) (hpl : (backTo pos (starEach [] X.env)).any (·.1) = false := by rfl) : DE X c W (.Call (.Name x p) [ex] [] pos) (dUn r31 te) :=
  ⟨PE.imp (pe_callB hc hg hm hv (pa_cons ha.pe pa_nil he) hn hdb he hpl) fun σ H Q h => lift_un h3 h⟩
theorem de_callT (hc : CallR X (.type T) r) (h3 : Un3 X.K (fun x H Q => r [x] H Q) r31) (hg : Gl X x) (hm : X.mg x = none) (hv : bootBuiltins x = some (.type T)) (ha : DE X c W ex te) (hn : x ≠ "__name__" := by decide) (hdb : (x == ("__debug__" : Str)) = false := by decide)
    (he : starEach (ex :: []) X.env = (false, eval ex X.env) :: starEach [] X.env := by rfl) (hpl : (backTo pos (starEach [] X.env)).any (·.1) = false := by rfl) : DE X c W (.Call (.Name x p) [ex] [] pos) (dUn r31 te) :=
  ⟨PE.imp (pe_callTy hc hg hm hv (pa_cons ha.pe pa_nil he) hn hdb he hpl) fun σ H Q h => lift_un h3 h⟩
end
section
variable {K : PySem.W.Frag}
def D.len : D → Option Nat
  | .str x => some x.length
  | .lst xs => some xs.length
  | .tup xs => some xs.length
  | _ => none
def r31Len : R31 := fun d Q => ∃ n, d.len = some n ∧ n ≤ sizeLine ∧ Q (.d (.int n))
theorem u3_len : Un3 K (fun x H Q => ∃ y n, [x] = [y] ∧ LenV K y H n ∧ Q (.int n) H) r31Len := by
  rintro G H d x Qr Q sg h ⟨n, hl, hn, q⟩ k
  refine ⟨x, n, rfl, ?_, k _ _ _ _ (.d (.int _)) q⟩
  cases d with
  | str z => cases hl; rw [h.str]; exact ⟨hn, rfl⟩
  | lst xs => cases hl; obtain ⟨a, vs, rfl, ha, ra⟩ := h.lst sg; exact .inl ⟨vs, .inl (.inl ha), ra.length⟩
  | tup xs => cases hl; obtain ⟨a, vs, rfl, ha, ra⟩ := h.tup sg; exact .inr ⟨vs, ha, ra.length⟩
  | _ => cases hl
/-- all, any of bools -/
def blsOf : List D → Option (List Bool)
  | [] => some []
  | .bl b :: r => (blsOf r).map (b :: ·)
  | _ :: _ => none
theorem bls_vals {G : Hp} : ∀ {xs : List D} {vs : List V} {bs : List Bool}, RepDs K G xs vs → blsOf xs = some bs → vs = bs.map V.bl
  | _, _, _, .nil, e => by cases e; rfl
  | .bl b :: r, _, bs, .cons h q, e => by
    simp only [blsOf, Option.map_eq_some_iff] at e
    obtain ⟨cs, e1, rfl⟩ := e
    cases h
    rw [bls_vals q e1]; rfl
  | .non :: _, _, _, .cons _ _, e => by cases e
  | .int _ :: _, _, _, .cons _ _, e => by cases e
  | .str _ :: _, _, _, .cons _ _, e => by cases e
  | .tup _ :: _, _, _, .cons _ _, e => by cases e
  | .lst _ :: _, _, _, .cons _ _, e => by cases e
  | .dct _ _ :: _, _, _, .cons _ _, e => by cases e
  | .ins _ _ _ :: _, _, _, .cons _ _, e => by cases e
def r31All : R31 := fun d Q => ∃ xs bs, d = .lst xs ∧ blsOf xs = some bs ∧ Q (.d (.bl (bs.all id)))
def r31Any : R31 := fun d Q => ∃ xs bs, d = .lst xs ∧ blsOf xs = some bs ∧ Q (.d (.bl (bs.any id)))
theorem u3_all : Un3 K (fun x H Q => rAll K [x] H Q) r31All := by
  rintro G H d x Qr Q sg h ⟨xs, bs, rfl, hb, q⟩ k
  obtain ⟨a, vs, rfl, ha, ra⟩ := h.lst sg
  have e := bls_vals ra hb
  subst e
  exact ⟨a, bs, rfl, .inl (.inl ha), k _ _ _ _ (.d (.bl _)) q⟩
theorem u3_any : Un3 K (fun x H Q => rAny K [x] H Q) r31Any := by
  rintro G H d x Qr Q sg h ⟨xs, bs, rfl, hb, q⟩ k
  obtain ⟨a, vs, rfl, ha, ra⟩ := h.lst sg
  have e := bls_vals ra hb
  subst e
  exact ⟨a, bs, rfl, .inl (.inl ha), k _ _ _ _ (.d (.bl _)) q⟩
/-- list(x), tuple(x) -/
def r31List : R31 := fun d Q => ∃ xs, (d = .lst xs ∨ d = .tup xs) ∧ Q (.tl xs)
def r31Tuple : R31 := fun d Q => ∃ xs, (d = .lst xs ∨ d = .tup xs) ∧ Q (.d (.tup xs))
theorem u3_list : Un3 K (fun x H Q => ∃ p ys, [x] = [V.ref p] ∧ (SqL K H p ys ∨ SqT K H p ys) ∧ ∀ l, H l = none → Q (.ref l) (upd H l (.lst ys))) r31List := by
  rintro G H d x Qr Q sg h ⟨xs, rfl | rfl, q⟩ k
  · obtain ⟨a, vs, rfl, ha, ra⟩ := h.lst sg
    exact ⟨a, vs, rfl, .inl (.inl (.inl ha)), fun l hl => k _ _ _ _ (.nl hl ra) q⟩
  · obtain ⟨a, vs, rfl, ha, ra⟩ := h.tup sg
    exact ⟨a, vs, rfl, .inr ha, fun l hl => k _ _ _ _ (.nl hl ra) q⟩
theorem DV.data {G H : Hp} {d : D} {x : V} (h : DV K G H d x) (h1 : ∀ xs, d ≠ .lst xs) (h2 : ∀ ks xs, d ≠ .dct ks xs) : RepD K G d x := by
  rcases h with h | ⟨_, _, xs, h, _⟩ | ⟨_, ks, _, xs, h, _⟩
  · exact h
  · exact absurd h (h1 xs)
  · exact absurd h (h2 ks xs)
theorem u3_tuple : Un3 K (fun x H Q => ∃ p ys, [x] = [V.ref p] ∧ ((SqL K H p ys ∧ ∀ l, H l = none → Q (.ref l) (upd H l (.tup ys))) ∨ (SqT K H p ys ∧ Q (.ref p) H))) r31Tuple := by
  rintro G H d x Qr Q sg h ⟨xs, rfl | rfl, q⟩ k
  · obtain ⟨a, vs, rfl, ha, ra⟩ := h.lst sg
    exact ⟨a, vs, rfl, .inl ⟨.inl (.inl ha), fun l hl => k _ _ _ _ (.nt hl ra) q⟩⟩
  · have hd := h.data (fun _ z => by cases z) (fun _ _ z => by cases z)
    obtain ⟨a, vs, rfl, ha, ra⟩ := h.tup sg
    exact ⟨a, vs, rfl, .inr ⟨ha, k _ _ _ _ (.d hd) q⟩⟩
/-- int(x), abs(x), bool(x) of numbers -/
def r31Int : R31 := fun d Q => (∃ i, d = .int i ∧ Q (.d (.int i))) ∨ ∃ b, d = .bl b ∧ Q (.d (.int (if b then 1 else 0)))
theorem u3_int : Un3 K (fun x H Q => (∃ i, [x] = [V.int i] ∧ Q (.int i) H) ∨ ∃ k, [x] = [V.bl k] ∧ Q (.int (if k then 1 else 0)) H) r31Int := by
  rintro G H d x Qr Q sg h (⟨i, rfl, q⟩ | ⟨b, rfl, q⟩) k
  · exact .inl ⟨i, by rw [h.int], k _ _ _ _ (.d (.int _)) q⟩
  · exact .inr ⟨b, by rw [h.bl], k _ _ _ _ (.d (.int _)) q⟩
end

/-! ### isinstance of built-in types -/
def isTy : D → String → Bool
  | .non, "NoneType" => true
  | .bl _, "bool" => true
  | .bl _, "int" => true
  | .int _, "int" => true
  | .str _, "str" => true
  | .tup _, "tuple" => true
  | .lst _, "list" => true
  | .dct _ _, "dict" => true
  | _, _ => false
def tyOf : D → String
  | .non => "NoneType"
  | .bl _ => "bool"
  | .int _ => "int"
  | .str _ => "str"
  | .tup _ => "tuple"
  | .lst _ => "list"
  | .dct _ _ => "dict"
  | .ins _ _ _ => "?"
def known (T : String) : Bool := ["int", "bool", "str", "list", "tuple", "dict"].contains T
def D.isIns : D → Bool
  | .ins _ _ _ => true
  | _ => false
theorem kit_all : (["NoneType", "bool", "int", "str", "tuple", "list", "dict"].all fun a => ["int", "bool", "str", "list", "tuple", "dict"].all fun b => kitB a b == some (a == b || (a == "bool" && b == "int"))) = true := by decide +kernel
theorem isTy_eq {d : D} {T : String} (h : d.isIns = false) (hT : known T = true) : kitB (tyOf d) T = some (isTy d T) := by
  have ha : tyOf d ∈ ["NoneType", "bool", "int", "str", "tuple", "list", "dict"] := by cases d <;> simp_all [tyOf, D.isIns]
  have hb : T ∈ ["int", "bool", "str", "list", "tuple", "dict"] := by simpa [known] using hT
  have q := List.all_eq_true.mp (List.all_eq_true.mp kit_all _ ha) _ hb
  rw [beq_iff_eq] at q
  rw [q]
  simp only [List.mem_cons, List.not_mem_nil, or_false] at hb
  congr 1
  cases d with
  | ins _ _ _ => cases h
  | _ => rcases hb with rfl | rfl | rfl | rfl | rfl | rfl <;> simp [tyOf, isTy]
section
variable {K : PySem.W.Frag} {G H : Hp} {d : D} {x : V}
theorem DV.tyx (h : DV K G H d x) (sg : Same G H) (hn : d.isIns = false) : TyX K H x (.type (tyOf d)) := by
  cases d with
  | non => rw [h.non]; exact .base .non
  | bl b => rw [h.bl]; exact .base (.bl b)
  | int i => rw [h.int]; exact .base (.int i)
  | str z => rw [h.str]; exact .base (.str z)
  | tup xs =>
    obtain ⟨a, vs, rfl, ha, _⟩ := h.tup sg
    rcases ha with (ha | ⟨o, ha⟩) | ⟨o, its, n, ha, hc, _⟩
    · exact .base (.tup ha)
    · exact .fTuple ha
    · exact .kTuple ha hc
  | lst xs => obtain ⟨a, vs, rfl, ha, _⟩ := h.lst sg; exact .base (.lst ha)
  | dct ks xs => obtain ⟨a, vs, rfl, ha, _⟩ := h.dct sg; exact .base (.dK ha)
  | ins _ _ _ => cases hn
end
def r31Isi (Ts : List String) : R31 := fun d Q => d.isIns = false ∧ Q (.d (.bl (Ts.any (isTy d))))
theorem kitAny_all {K : PySem.W.Frag} {d : D} (h : d.isIns = false) : ∀ {Ts : List String}, (Ts.all known) = true → PySem.W.kitAny K (.type (tyOf d)) (Ts.map Value.type) = some (Ts.any (isTy d))
  | [], _ => kitAny_nil
  | T :: Ts, hT => by
    simp only [List.all_cons, Bool.and_eq_true] at hT
    have k1 := kit_ty (K := K) (isTy_eq h hT.1)
    have k2 := kitAny_all (K := K) h hT.2
    rw [List.map_cons, List.any_cons]
    exact kitAny_cons k1 (fun e => by rw [e, Bool.false_or]; exact k2) fun e => by rw [e, Bool.true_or]
section
variable {X : Cx} {c : C0} {W : WX} {ex : Expr} {te : TDE} {p p2 pos : Pos} {tn : Str} {T : String}
/-- isinstance(e, T) -/
theorem de_isi1 (T : String) (hT : known T = true) (hg : Gl X "isinstance") (hm : X.mg "isinstance" = none) (hgt : Gl X tn) (hmt : X.mg tn = none) (hvt : bootBuiltins tn = some (.type T)) (ha : DE X c W ex te) (hv : bootBuiltins "isinstance" = some (.builtin "isinstance") := by first | exact PyProof.Rows.boot_isinstance | decide +kernel)
    (hn : tn ≠ "__name__" := by decide) (hdb : (tn == ("__debug__" : Str)) = false := by decide)
    (he : starEach (ex :: [Expr.Name tn p2]) X.env = (false, eval ex X.env) :: starEach [Expr.Name tn p2] X.env := by rfl) (he2 : starEach (Expr.Name tn p2 :: []) X.env = (false, eval (Expr.Name tn p2) X.env) :: starEach [] X.env := by rfl) (hpl : (backTo pos (starEach [Expr.Name tn p2] X.env)).any (·.1) = false := by rfl) :
    DE X c W (.Call (.Name "isinstance" p) [ex, .Name tn p2] [] pos) (dUn (r31Isi [T]) te) := by
  refine ⟨PE.imp (pe_callB (r := rIsi X.K) call_isi hg hm hv (pa_cons ha.pe (pa_cons (pe_bltn (v := .ty T) hgt hmt hvt rfl hn hdb) pa_nil he2) he) (by decide) (by decide) he hpl) fun σ H Q h => ?_⟩
  refine lift_un (r := fun x H Q => rIsi X.K [x, .ty T] H Q) (fun G H d x Qr Q sg hd ⟨hi, q⟩ k => ?_) h
  refine ⟨x, .ty T, .type (tyOf d), .type T, isTy d T, rfl, .ty T, hd.tyx sg hi, kit_ty (isTy_eq hi hT), k _ _ _ _ (.d (.bl _)) ?_⟩
  simpa using q
/-- isinstance(e, (T, U)) -/
theorem de_isi2 (T U : String) {un : Str} {p3 p4 : Pos} {kk : Nat} (hT : known T = true) (hU : known U = true) (hg : Gl X "isinstance") (hm : X.mg "isinstance" = none) (hgt : Gl X tn) (hmt : X.mg tn = none) (hvt : bootBuiltins tn = some (.type T)) (hgu : Gl X un) (hmu : X.mg un = none) (hvu : bootBuiltins un = some (.type U))
    (ha : DE X c W ex te) (hv : bootBuiltins "isinstance" = some (.builtin "isinstance") := by first | exact PyProof.Rows.boot_isinstance | decide +kernel)
    (hn : tn ≠ "__name__" := by decide) (hdb : (tn == ("__debug__" : Str)) = false := by decide) (hn2 : un ≠ "__name__" := by decide) (hdb2 : (un == ("__debug__" : Str)) = false := by decide)
    (he : starEach (ex :: [Expr.Tuple [Expr.Name tn p2, Expr.Name un p3] kk p4]) X.env = (false, eval ex X.env) :: starEach [Expr.Tuple [Expr.Name tn p2, Expr.Name un p3] kk p4] X.env := by rfl)
    (he2 : starEach (Expr.Tuple [Expr.Name tn p2, Expr.Name un p3] kk p4 :: []) X.env = (false, eval (Expr.Tuple [Expr.Name tn p2, Expr.Name un p3] kk p4) X.env) :: starEach [] X.env := by rfl) (hpl : (backTo pos (starEach [Expr.Tuple [Expr.Name tn p2, Expr.Name un p3] kk p4] X.env)).any (·.1) = false := by rfl)
    (he3 : starEach (Expr.Name tn p2 :: [Expr.Name un p3]) X.env = (false, eval (Expr.Name tn p2) X.env) :: starEach [Expr.Name un p3] X.env := by rfl) (he4 : starEach (Expr.Name un p3 :: []) X.env = (false, eval (Expr.Name un p3) X.env) :: starEach [] X.env := by rfl) :
    DE X c W (.Call (.Name "isinstance" p) [ex, .Tuple [.Name tn p2, .Name un p3] kk p4] [] pos) (dUn (r31Isi [T, U]) te) := by
  refine ⟨PE.imp (pe_callB (r := rIsiT X.K) call_isiT hg hm hv (pa_cons ha.pe (pa_cons (pe_tup (pa_cons (pe_bltn (v := .ty T) hgt hmt hvt rfl hn hdb) (pa_cons (pe_bltn (v := .ty U) hgu hmu hvu rfl hn2 hdb2) pa_nil he4) he3)) pa_nil he2) he) (by decide) (by decide) he hpl) fun σ H Q h => ?_⟩
  obtain ⟨G, e, Qd, Xd, rel, h, hQ, hX⟩ := h
  refine ⟨G, e, _, Xd, rel, h, fun ρ1 e1 v1 G1 H1 st1 r1 h1 => ?_, hX⟩
  obtain ⟨d, sd, hi, q⟩ := h1
  refine ⟨(by decide : 2 ≤ 1000000) |> fun z => Nat.le_trans z mil, fun tp htp => ?_⟩
  have st2 := Step.ext st1.rel (same_upd (o := .tup [.ty T, .ty U]) htp) (Same.refl _) (st1.rel.gh.trans (same_upd htp)) fun a h => .inl h
  have dv := (r1.step st2).see st2.rel sd
  refine ⟨v1, tp, [.ty T, .ty U], .type (tyOf d), [.type T, .type U], _, rfl, upd_same, .cons (.ty T) (.cons (.ty U) .nil), dv.tyx st2.rel.gh hi, kitAny_all (K := X.K) hi (Ts := [T, U]) (by simp [hT, hU]), ?_⟩
  exact hQ (.d (.bl _)) e1 _ _ _ (st1.trans rel st2) (RepD.bl _) q
end

/-! ### slices -/
abbrev TDO := XD → List S → (Option Int → List S → Prop) → Prop
def liftO (K : PySem.W.Frag) (c : C0) (W : WX) (t : TDO) : TO := fun σ H Q => ∃ (G : Hp) (e : List S) (Qd : Option Int → List S → Prop) (Xd : XD), Rel K c G H σ e ∧ t Xd e Qd ∧
  (∀ (o : Option Int) (e' : List S) (G' H' : Hp), Step K c σ G H e G' H' e' → Qd o e' → Q o H') ∧ KE K c W Xd σ G H e
structure DO (X : Cx) (c : C0) (W : WX) (e : Option Expr) (t : TDO) : Prop where
  po : PO X e (liftO X.K c W t)
theorem PO.imp {X : Cx} {e : Option Expr} {t t' : TO} (h : PO X e t) (i : ∀ σ H Q, t' σ H Q → t σ H Q) : PO X e t' := ⟨fun pins s σ H Q I q => h.run pins s σ H Q I (i σ H Q q)⟩
def dNoPart : TDO := fun _ e Q => Q none e
def dPart (te : TDE) : TDO := fun Xd e Q => te Xd e fun ρ e1 => ∃ i, see e1 ρ = some (.int i) ∧ Q (some i) e1
def cutD (xs : List D) (lo hi : Option Int) : List D := (xs.drop (HT.sIx xs.length 0 lo)).take (HT.sIx xs.length xs.length hi - HT.sIx xs.length 0 lo)
def dSl (te : TDE) (tl th : TDO) : TDE := fun Xd e Q => te Xd e fun ρ e1 => tl Xd e1 fun lo e2 => th Xd e2 fun hi e3 => ∃ d, see e3 ρ = some d ∧
  ((∃ xs, d = .lst xs ∧ Q (.tl (cutD xs lo hi)) e3) ∨ ∃ xs, d = .tup xs ∧ Q (.d (.tup (cutD xs lo hi))) e3)
section
variable {X : Cx} {c : C0} {W : WX} {ex : Expr} {te : TDE} {lo hi : Option Expr} {tl th : TDO} {pos p2 : Pos}
theorem do_none : DO X c W none dNoPart := ⟨PO.imp po_none fun σ H Q ⟨G, e, Qd, Xd, rel, h, hQ, hX⟩ => hQ none e G H (Step.refl rel) h⟩
theorem do_some (h : DE X c W ex te) : DO X c W (some ex) (dPart te) := by
  refine ⟨PO.imp (po_some h.pe) fun σ H Q ⟨G, e, Qd, Xd, rel, h, hQ, hX⟩ => ?_⟩
  refine ⟨G, e, _, Xd, rel, h, fun ρ e1 v G1 H1 s1 r1 h1 => ?_, hX⟩
  obtain ⟨i, sd, h1⟩ := h1
  exact ⟨i, (r1.see s1.rel sd).int, hQ _ e1 G1 H1 s1 h1⟩
theorem RepDs.cut {K : PySem.W.Frag} {G : Hp} {xs : List D} {vs : List V} (h : RepDs K G xs vs) (lo hi : Option Int) : RepDs K G (cutD xs lo hi) (cutV vs lo hi) := by
  unfold cutD cutV
  rw [h.length]
  exact (h.drop _).take _
/-- script[..] -/
def dSlS (te : TDE) (tl th : TDO) : TDE := fun Xd e Q => te Xd e fun ρ e1 => tl Xd e1 fun lo e2 => th Xd e2 fun hi e3 => ∃ xs, see e3 ρ = some (scrD xs) ∧ Q (.tl (cutD xs lo hi)) e3
theorem de_sliceS (he : DE X c W ex te) (hl : DO X c W lo tl) (hu : DO X c W hi th) : DE X c W (.Subscript ex (.Slice lo hi none p2) pos) (dSlS te tl th) := by
  refine ⟨PE.imp (pe_slice sl_list he.pe hl.po hu.po) fun σ H Q ⟨G, e, Qd, Xd, rel, h, hQ, hX⟩ => ?_⟩
  refine ⟨G, e, _, Xd, rel, h, fun ρ e1 v G1 H1 s1 r1 h1 => ?_, hX⟩
  refine ⟨G1, e1, _, Xd, s1.rel, h1, fun l e2 G2 H2 s2 h2 => ?_, hX.step rel s1⟩
  have s12 := s1.trans rel s2
  refine ⟨G2, e2, _, Xd, s2.rel, h2, fun u e3 G3 H3 s3 h3 => ?_, hX.step rel s12⟩
  have s13 := s12.trans rel s3
  obtain ⟨xs, sd, q⟩ := h3
  have dv := ((r1.step s2).step s3).see s3.rel sd
  obtain ⟨a, vs, rfl, ha, ra⟩ := dv.scr s3.rel.gh
  refine ⟨a, vs, rfl, ha, fun p hp => ?_⟩
  obtain ⟨s4, r4⟩ := (Out.nl hp (ra.cut l u)).step s3.rel
  exact hQ _ e3 _ _ _ (s13.trans rel s4) (r4.back s13) q
theorem de_slice (he : DE X c W ex te) (hl : DO X c W lo tl) (hu : DO X c W hi th) : DE X c W (.Subscript ex (.Slice lo hi none p2) pos) (dSl te tl th) := by
  refine ⟨PE.imp (pe_slice (SlR.or sl_list sl_tupA) he.pe hl.po hu.po) fun σ H Q ⟨G, e, Qd, Xd, rel, h, hQ, hX⟩ => ?_⟩
  refine ⟨G, e, _, Xd, rel, h, fun ρ e1 v G1 H1 s1 r1 h1 => ?_, hX⟩
  refine ⟨G1, e1, _, Xd, s1.rel, h1, fun l e2 G2 H2 s2 h2 => ?_, hX.step rel s1⟩
  have s12 := s1.trans rel s2
  refine ⟨G2, e2, _, Xd, s2.rel, h2, fun u e3 G3 H3 s3 h3 => ?_, hX.step rel s12⟩
  have s13 := s12.trans rel s3
  obtain ⟨d, sd, h3⟩ := h3
  have dv := ((r1.step s2).step s3).see s3.rel sd
  rcases h3 with ⟨xs, rfl, q⟩ | ⟨xs, rfl, q⟩
  · obtain ⟨a, vs, rfl, ha, ra⟩ := dv.lst s3.rel.gh
    refine .inl ⟨a, vs, rfl, .inl (.inl ha), fun p hp => ?_⟩
    obtain ⟨s4, r4⟩ := (Out.nl hp (ra.cut l u)).step s3.rel
    exact hQ _ e3 _ _ _ (s13.trans rel s4) (r4.back s13) q
  · have hd := dv.data (fun _ z => by cases z) (fun _ _ z => by cases z)
    obtain ⟨a, vs, rfl, ha, ra⟩ := dv.tup s3.rel.gh
    refine .inr ⟨a, vs, rfl, ha, fun ⟨w1, w2⟩ => ?_, fun _ p hp => ?_⟩
    · have e : cutD xs l u = xs := by
        unfold cutD
        rw [ra.length, w1, w2]
        simp [← ra.length]
      rw [e] at q
      exact hQ (.d (.tup xs)) e3 _ _ _ s13 hd q
    · obtain ⟨s4, r4⟩ := (Out.nt hp (ra.cut l u)).step s3.rel
      exact hQ _ e3 _ _ _ (s13.trans rel s4) (r4.back s13) q
end

/-! ### methods of a list of one's own -/
section
variable {K : PySem.W.Frag} {c : C0} {σ : St} {G H : Hp} {e : List S} {a : Addr} {vs : List V} {i : Nat} {xs xs' : List D}
theorem Step.mutS {s0 s1 : S} {vs' : List V} (ho : s0.own = true) (ho' : s1.own = true) (hf : s0.fixd = s1.fixd) (hs1 : SlotR K G (upd H a (.lst vs')) s1 (some (.ref a))) (r : Rel K c G H σ e) (he : e[i]? = some s0) (hv : σ[i]? = some (some (.ref a))) : Step K c σ G H e G (upd H a (.lst vs')) (e.set i s1) := by
  have oa : OwnAt σ e a := ⟨i, _, he, ho, hv⟩
  have hi := (List.getElem?_eq_some_iff.mp he).1
  obtain ⟨ga, ca⟩ := r.own a oa
  have at_ : ∀ (j : Nat) (t : S), (e.set i s1)[j]? = some t → (j = i ∧ t = s1) ∨ (j ≠ i ∧ e[j]? = some t) := fun j t h => by
    by_cases z : i = j
    · subst z; rw [List.getElem?_set_self hi] at h; cases h; exact .inl ⟨rfl, rfl⟩
    · rw [List.getElem?_set_ne z] at h; exact .inr ⟨fun q => z q.symm, h⟩
  have ow : ∀ b, OwnAt σ (e.set i s1) b → OwnAt σ e b := fun b ⟨j, t, h1, h2, h3⟩ => by
    rcases at_ j t h1 with ⟨rfl, rfl⟩ | ⟨_, q⟩
    · exact ⟨j, _, he, ho, h3⟩
    · exact ⟨j, t, q, h2, h3⟩
  obtain ⟨u0, hu0, hu1, hu2⟩ := r.ownH oa
  refine ⟨⟨by rw [List.length_set]; exact r.len, fun j t h => ?_, ?_, fun b o h n t0 => ?_, r.gsub, r.gnew, fun b h => r.own b (ow b h), fun j k t u b h1 h2 h3 h4 h5 h6 => ?_, fun j b h => ?_, by rw [List.length_set]; exact r.ln, r.tabs.upd hu0 hu1 hu2, r.gt⟩, Same.refl _, fun b o h n _ => ?_, fun b h => .inl h, ow, fun b h => ?_, r.tabs⟩
  · rcases at_ j t h with ⟨rfl, rfl⟩ | ⟨nj, q⟩
    · rw [hv]; exact hs1
    · refine (r.sl j t q).mono (Same.refl _) fun b o q1 q2 q3 => ?_
      have hne : b ≠ a := fun z => by
        subst z
        refine nj (r.inj j i t _ b q he q1 ho ?_ hv)
        cases w : σ[j]? with
        | none => rw [w] at q2; cases q2
        | some x => rw [w] at q2; cases q2; rfl
      rw [upd_ne hne]; exact q3
  · intro b o h
    have hne : b ≠ a := fun z => by subst z; rw [ga] at h; cases h
    rw [upd_ne hne]; exact r.gh b o h
  · have hne : b ≠ a := fun z => by
      subst z
      rcases ca with q | q
      · rw [q] at h; cases h
      · exact n q
    rw [upd_ne hne]; exact r.keep b o h n t0
  · have f : ∀ (j : Nat) (t : S), (e.set i s1)[j]? = some t → t.own = true → ∃ t', e[j]? = some t' ∧ t'.own = true := fun j t h o => by
      rcases at_ j t h with ⟨rfl, _⟩ | ⟨_, q⟩
      · exact ⟨_, he, ho⟩
      · exact ⟨t, q, o⟩
    obtain ⟨t', q1, q2⟩ := f j t h1 h3
    obtain ⟨u', p1, p2⟩ := f k u h2 h4
    exact r.inj j k t' u' b q1 p1 q2 p2 h5 h6
  · obtain ⟨h1, t, h2, h3⟩ := r.rfs j b h
    refine ⟨h1, ?_⟩
    by_cases z : i = j
    · subst z
      rw [he] at h2; cases h2
      exact ⟨s1, List.getElem?_set_self hi, by rw [← hf]; exact h3⟩
    · exact ⟨t, by rw [List.getElem?_set_ne z]; exact h2, h3⟩
  · have hne : b ≠ a := fun z => by subst z; exact n oa
    rw [upd_ne hne]; exact h
  · by_cases z : b = a
    · subst z; rw [upd_same]; simp
    · rw [upd_ne z]; exact h
theorem Step.mutl {vs' : List V} (r : Rel K c G H σ e) (he : e[i]? = some (.ol xs)) (hv : σ[i]? = some (some (.ref a))) (hr : RepDs K G xs' vs') : Step K c σ G H e G (upd H a (.lst vs')) (e.set i (.ol xs')) :=
  Step.mutS (s0 := .ol xs) (s1 := .ol xs') rfl rfl rfl ⟨a, vs', rfl, upd_same, hr⟩ r he hv
theorem Rel.ol (r : Rel K c G H σ e) (he : e[i]? = some (.ol xs)) : ∃ a vs, σ[i]? = some (some (.ref a)) ∧ H a = some (.lst vs) ∧ RepDs K G xs vs := by
  obtain ⟨a, vs, h1, h2, h3⟩ := r.sl i _ he
  refine ⟨a, vs, ?_, h2, h3⟩
  cases w : σ[i]? with
  | none => rw [w] at h1; cases h1
  | some x => rw [w] at h1; cases h1; rfl
end
section
variable {X : Cx} {c : C0} {W : WX} {ex : Expr} {te : TDE} {x : Str} {p apos cpos : Pos} {i : Nat}
def dApp (i : Nat) (te : TDE) : TDE := fun Xd e Q => (∃ ys, e[i]? = some (.ol ys)) ∧ te Xd e fun ρ e1 => ∃ d xs, see e1 ρ = some d ∧ (fz e1 ρ)[i]? = some (.ol xs) ∧ xs.length < 1000000 ∧ Q (.d .non) ((fz e1 ρ).set i (.ol (xs ++ [d])))
theorem de_append (i : Nat) (ha : DE X c W ex te) (hN : X.N[i]? = some x := by rfl) (hv : Vis X.env.scope x := by first | exact Or.inl rfl | exact Or.inr (Or.inl rfl) | exact Or.inr (Or.inr rfl)) (hd : (x == ("__debug__" : Str)) = false := by decide)
    (hcd : (x == ("__classdict__" : Str)) = false := by decide) (hbase : attributeBase (.Name x p) "append" X.env (eval (.Name x p) X.env) = eval (.Name x p) X.env := by rfl)
    (hfew : ((backTo cpos (starEach [ex] X.env)).all (fun x => !x.1) && (backToKw cpos (keywordEach [] X.env)).all (fun x => x.1.isSome) && decide ([ex].length + ([] : List Keyword).length + (if ([] : List Keyword).isEmpty then 0 else 1) < 30)) = true := by rfl)
    (hline : (apos.endLine == cpos.line) = true := by rfl) (hs : starEach (ex :: []) X.env = (false, eval ex X.env) :: starEach [] X.env := by rfl) (hplain : (backTo cpos (starEach [] X.env)).any (·.1) = false := by rfl) :
    DE X c W (.Call (.Attribute (.Name x p) "append" apos) [ex] [] cpos) (dApp i te) := by
  refine ⟨PE.imp (pe_bm PySem.F.plainAttrs_list PySem.F.slot_list_append PySem.F.type_list_append mt_append (pe_var hN hv hd hcd) (pa_cons ha.pe pa_nil hs) hbase hfew hline hs hplain) fun σ H Q ⟨G, e, Qd, Xd, rel, ⟨⟨ys, hys⟩, h⟩, hQ, hX⟩ => ?_⟩
  obtain ⟨a, vs, hσ, hH, _⟩ := rel.ol hys
  refine ⟨.ref a, hσ, .inl ⟨rfl, vs, .inl (.inl hH)⟩, G, e, _, Xd, rel, h, fun ρ e1 v G1 H1 s1 r1 h1 => ?_, hX⟩
  obtain ⟨d, xs, sd, hx, hl, h1⟩ := h1
  obtain ⟨G2, s2, rd, _⟩ := Step.asD rel s1 r1 sd
  obtain ⟨b, ws, hσ', hH', rw'⟩ := s2.rel.ol hx
  rw [hσ] at hσ'; cases hσ'
  have l1 := rw'.length
  refine ⟨a, ws, v, rfl, rfl, hH', Nat.lt_of_lt_of_le (by omega) mil, ?_⟩
  exact hQ (.d .non) _ .non _ _ (s2.trans rel (Step.mutl s2.rel hx hσ (rw'.append (.cons rd .nil)))) RepD.non h1
def dExt (i : Nat) (te : TDE) : TDE := fun Xd e Q => (∃ ys, e[i]? = some (.ol ys)) ∧ te Xd e fun ρ e1 => ∃ ds xs, see e1 ρ = some (.lst ds) ∧ (fz e1 ρ)[i]? = some (.ol xs) ∧ xs.length + ds.length ≤ 1000000 ∧ Q (.d .non) ((fz e1 ρ).set i (.ol (xs ++ ds)))
theorem de_extend (i : Nat) (ha : DE X c W ex te) (hN : X.N[i]? = some x := by rfl) (hv : Vis X.env.scope x := by first | exact Or.inl rfl | exact Or.inr (Or.inl rfl) | exact Or.inr (Or.inr rfl)) (hd : (x == ("__debug__" : Str)) = false := by decide)
    (hcd : (x == ("__classdict__" : Str)) = false := by decide) (hbase : attributeBase (.Name x p) "extend" X.env (eval (.Name x p) X.env) = eval (.Name x p) X.env := by rfl)
    (hfew : ((backTo cpos (starEach [ex] X.env)).all (fun x => !x.1) && (backToKw cpos (keywordEach [] X.env)).all (fun x => x.1.isSome) && decide ([ex].length + ([] : List Keyword).length + (if ([] : List Keyword).isEmpty then 0 else 1) < 30)) = true := by rfl)
    (hline : (apos.endLine == cpos.line) = true := by rfl) (hs : starEach (ex :: []) X.env = (false, eval ex X.env) :: starEach [] X.env := by rfl) (hplain : (backTo cpos (starEach [] X.env)).any (·.1) = false := by rfl) :
    DE X c W (.Call (.Attribute (.Name x p) "extend" apos) [ex] [] cpos) (dExt i te) := by
  refine ⟨PE.imp (pe_bm PySem.F.plainAttrs_list PySem.F.slot_list_extend PySem.F.type_list_extend mt_extend (pe_var hN hv hd hcd) (pa_cons ha.pe pa_nil hs) hbase hfew hline hs hplain) fun σ H Q ⟨G, e, Qd, Xd, rel, ⟨⟨ys, hys⟩, h⟩, hQ, hX⟩ => ?_⟩
  obtain ⟨a, vs, hσ, hH, _⟩ := rel.ol hys
  refine ⟨.ref a, hσ, .inl ⟨rfl, vs, .inl (.inl hH)⟩, G, e, _, Xd, rel, h, fun ρ e1 v G1 H1 s1 r1 h1 => ?_, hX⟩
  obtain ⟨ds, xs, sd, hx, hl, h1⟩ := h1
  obtain ⟨G2, s2, rd, _⟩ := Step.asD rel s1 r1 sd
  obtain ⟨b, ws, hσ', hH', rw'⟩ := s2.rel.ol hx
  rw [hσ] at hσ'; cases hσ'
  cases rd with
  | @lst b vs' _ k1 k2 =>
    have l1 := rw'.length
    have l2 := k2.length
    refine ⟨a, b, ws, vs', rfl, rfl, hH', s2.rel.gh _ _ k1, Nat.le_trans (by omega) mil, ?_⟩
    exact hQ (.d .non) _ .non _ _ (s2.trans rel (Step.mutl s2.rel hx hσ (rw'.append k2))) RepD.non h1
def dPop (i : Nat) : TDE := fun Xd e Q => ∃ xs d, e[i]? = some (.ol xs) ∧ xs.getLast? = some d ∧ Q (.d d) (e.set i (.ol xs.dropLast))
theorem RepDs.dropLast {K : PySem.W.Frag} {G : Hp} {ds : List D} {vs : List V} (h : RepDs K G ds vs) : RepDs K G ds.dropLast vs.dropLast := by
  rw [List.dropLast_eq_take, List.dropLast_eq_take, h.length]
  exact h.take _
theorem de_pop (i : Nat) (hN : X.N[i]? = some x := by rfl) (hv : Vis X.env.scope x := by first | exact Or.inl rfl | exact Or.inr (Or.inl rfl) | exact Or.inr (Or.inr rfl)) (hd : (x == ("__debug__" : Str)) = false := by decide)
    (hcd : (x == ("__classdict__" : Str)) = false := by decide) (hbase : attributeBase (.Name x p) "pop" X.env (eval (.Name x p) X.env) = eval (.Name x p) X.env := by rfl) (hline : (apos.endLine == cpos.line) = true := by rfl) :
    DE X c W (.Call (.Attribute (.Name x p) "pop" apos) [] [] cpos) (dPop i) := by
  refine ⟨PE.imp (pe_bm0 PySem.F.plainAttrs_list PySem.F.slot_list_pop PySem.F.type_list_pop mt_pop (pe_var hN hv hd hcd) hbase hline) fun σ H Q ⟨G, e, Qd, Xd, rel, ⟨xs, d, he, hl, h⟩, hQ, hX⟩ => ?_⟩
  obtain ⟨a, vs, hσ, hH, rv⟩ := rel.ol he
  have hl' : xs[xs.length - 1]? = some d := by rw [← hl, List.getLast?_eq_getElem?]
  obtain ⟨v, hv', rd⟩ := rv.get' hl'
  refine ⟨.ref a, hσ, .inl ⟨rfl, vs, .inl (.inl hH)⟩, a, vs, v, rfl, rfl, hH, by rw [← rv.length]; exact hv', ?_⟩
  exact hQ (.d d) _ v _ _ (Step.mutl rel he hσ rv.dropLast) rd h
end
end L3

/-! L3: what a def promises over data; calls; bodies -/
namespace L3
open PySem PySem.Spec PyProof.Rows L2

/-- a def's promise: the arguments (data, or things handed by reference), what is wanted of the value and of these things behind, of an exception -/
abbrev SpD := List S → (D → List S → Prop) → (XV → List S → Prop) → Prop
structure ArgRel (K : PySem.W.Frag) (G H : Hp) (vs : List V) (as : List S) : Prop where
  len : vs.length = as.length
  sl : ∀ (i : Nat) (s : S), as[i]? = some s → SlotR K G H s vs[i]?
  gh : Same G H
  own : ∀ (i : Nat) (s : S) (a : Addr), as[i]? = some s → s.own = true → vs[i]? = some (V.ref a) → G a = none
  inj : ∀ (i j : Nat) (s t : S) (a : Addr), as[i]? = some s → as[j]? = some t → s.own = true → t.own = true → vs[i]? = some (V.ref a) → vs[j]? = some (V.ref a) → i = j
  fx : ∀ (i : Nat) (s : S), as[i]? = some s → s.own = true → s.fixd = true
def ByRef (vs : List V) (as : List S) (a : Addr) : Prop := ∃ (i : Nat) (s : S), as[i]? = some s ∧ s.own = true ∧ vs[i]? = some (V.ref a)
structure CStep (K : PySem.W.Frag) (G H : Hp) (vs : List V) (as : List S) (G' H' : Hp) (as' : List S) : Prop where
  ar : ArgRel K G' H' vs as'
  sg : Same G G'
  fr : ∀ a o, H a = some o → ¬ ByRef vs as a → H' a = some o
  gn : ∀ a, G' a ≠ none → G a ≠ none ∨ H a = none
  th : ∀ a, H a ≠ none → H' a ≠ none
  fx : ∀ (i : Nat) (s : S), as[i]? = some s → s.fixd = true → ∃ s' : S, as'[i]? = some s' ∧ s'.fixd = true
  dt : ∀ (i : Nat) (s : S), as[i]? = some s → s.fixd = false → as'[i]? = some s
def spOf (K : PySem.W.Frag) (n : Nat) (sp : SpD) : Sp := fun vs H Q E => vs.length = n ∧ ∃ (G : Hp) (as : List S) (Qd : D → List S → Prop) (Xd : XV → List S → Prop), ArgRel K G H vs as ∧ sp as Qd Xd ∧
  (∀ (d : D) (as' : List S) (v : V) (G' H' : Hp), CStep K G H vs as G' H' as' → RepD K G' d v → Qd d as' → Q v H') ∧
  (∀ (x : XV) (as' : List S) (cl : Value) (dd : Option Addr) (G' H' : Hp), CStep K G H vs as G' H' as' → RepX K H G' H' x cl dd → Xd x as' → E cl dd H')
theorem spOf_len {K : PySem.W.Frag} {n : Nat} {sp : SpD} {vs : List V} {H : Hp} {Q : VK} {E : XK} (h : spOf K n sp vs H Q E) : vs.length = n := h.1

/-! ### a def's body -/
/-- behind a body: the things by reference as they stand, the rest as it came -/
def merge : List S → List S → List S
  | [], _ => []
  | s :: r, t :: q => (if s.fixd then t else s) :: merge r q
  | s :: r, [] => s :: r
theorem merge_at : ∀ {as e : List S} {i : Nat} {s : S}, as[i]? = some s → as.length ≤ e.length → ∃ t, e[i]? = some t ∧ (merge as e)[i]? = some (if s.fixd then t else s)
  | [], _, _, _, h, _ => by simp at h
  | s :: r, [], _, _, _, hl => by simp at hl
  | s :: r, t :: q, 0, s', h, hl => by simp at h; subst h; exact ⟨t, rfl, rfl⟩
  | s :: r, t :: q, i + 1, s', h, hl => by
    obtain ⟨t', h1, h2⟩ := merge_at (as := r) (e := q) (i := i) (by simpa using h) (by simpa using hl)
    exact ⟨t', by simpa using h1, by simpa [merge] using h2⟩
theorem merge_len : ∀ {as e : List S}, as.length ≤ e.length → (merge as e).length = as.length
  | [], _, _ => rfl
  | s :: r, [], h => by simp at h
  | s :: r, t :: q, h => by simp only [merge, List.length_cons]; rw [merge_len (by simpa using h)]
def adOf (vs : List V) (as : List S) (i : Nat) : Option Addr := match as[i]?, vs[i]? with
  | some s, some (.ref a) => if s.fixd then some a else none
  | _, _ => none
theorem adOf_some {vs : List V} {as : List S} {i : Nat} {a : Addr} (h : adOf vs as i = some a) : ∃ s, as[i]? = some s ∧ s.fixd = true ∧ vs[i]? = some (.ref a) := by
  unfold adOf at h
  split at h
  · rename_i s b e1 e2
    split at h
    · rename_i hf
      cases h
      exact ⟨s, e1, hf, e2⟩
    · cases h
  · cases h
theorem adOf_of {vs : List V} {as : List S} {i : Nat} {a : Addr} {s : S} (h1 : as[i]? = some s) (h2 : s.fixd = true) (h3 : vs[i]? = some (.ref a)) : adOf vs as i = some a := by
  unfold adOf
  rw [h1, h3]
  simp [h2]
abbrev startE (n : Nat) (as : List S) : List S := as ++ List.replicate (n - as.length) .no
section
variable {K : PySem.W.Frag} {N : List Str} {G H G' H' : Hp} {vs : List V} {as e' : List S} {σ' : St}
theorem startE_at {n i : Nat} {s : S} (h : (startE n as)[i]? = some s) : as[i]? = some s ∨ (as.length ≤ i ∧ s = .no) := by
  by_cases z : i < as.length
  · rw [List.getElem?_append_left z] at h; exact .inl h
  · rw [List.getElem?_append_right (by omega), List.getElem?_replicate] at h
    split at h
    · cases h; exact .inr ⟨by omega, rfl⟩
    · cases h
theorem ArgRel.begin_ (r : ArgRel K G H vs as) (hN : vs.length ≤ N.length) : Rel K ⟨H, G, adOf vs as, N.length, []⟩ G H (L2.start N vs) (startE N.length as) := by
  have hl := r.len
  have σat : ∀ {i : Nat}, i < as.length → (L2.start N vs)[i]? = (vs[i]?).map some := fun {i} z => by
    unfold L2.start
    rw [List.getElem?_append_left (by rw [List.length_map]; omega), List.getElem?_map]
  have own : ∀ (i : Nat) (s : S) (a : Addr), (startE N.length as)[i]? = some s → s.own = true → (L2.start N vs)[i]? = some (some (.ref a)) → as[i]? = some s ∧ vs[i]? = some (.ref a) := fun i s a h1 h2 h3 => by
    rcases startE_at h1 with q | ⟨_, rfl⟩
    · refine ⟨q, ?_⟩
      rw [σat (List.getElem?_eq_some_iff.mp q).1] at h3
      cases w : vs[i]? with
      | none => rw [w] at h3; cases h3
      | some x => rw [w] at h3; cases h3; rfl
    · cases h2
  refine ⟨?_, fun i s h => ?_, r.gh, fun a o h _ _ => h, Same.refl _, fun a h => .inl h, fun a ⟨i, s, h1, h2, h3⟩ => ?_, fun i j s t a h1 h2 h3 h4 h5 h6 => ?_, fun i a h => ?_, by unfold startE; rw [List.length_append, List.length_replicate]; show _ = N.length; omega, fun p hp => absurd hp (List.not_mem_nil), fun a ha => absurd ha tb_nil⟩
  · unfold L2.start startE
    rw [List.length_append, List.length_append, List.length_map, List.length_replicate, List.length_replicate, hl]
  · rcases startE_at h with q | ⟨_, rfl⟩
    · rw [σat (List.getElem?_eq_some_iff.mp q).1]
      have := r.sl i s q
      cases w : vs[i]? with
      | none => rw [w] at this; exact this
      | some x => rw [w] at this; exact this
    · trivial
  · obtain ⟨q1, q2⟩ := own i s a h1 h2 h3
    exact ⟨r.own i s a q1 h2 q2, .inr ⟨i, adOf_of q1 (r.fx i s q1 h2) q2⟩⟩
  · obtain ⟨q1, q2⟩ := own i s a h1 h3 h5
    obtain ⟨p1, p2⟩ := own j t a h2 h4 h6
    exact r.inj i j s t a q1 p1 h3 h4 q2 p2
  · obtain ⟨s, q1, q2, q3⟩ := adOf_some h
    have z := (List.getElem?_eq_some_iff.mp q1).1
    exact ⟨by rw [σat z, q3]; rfl, s, by unfold startE; rw [List.getElem?_append_left z]; exact q1, q2⟩
/-- behind the body -/
theorem ArgRel.fin (r : ArgRel K G H vs as) (hN : vs.length ≤ N.length) (r' : Rel K ⟨H, G, adOf vs as, N.length, []⟩ G' H' σ' e') : CStep K G H vs as G' H' (merge as e') := by
  have hl := r.len
  have he : e'.length = N.length := r'.ln
  have hle : as.length ≤ e'.length := by omega
  have hth : ∀ a, H a ≠ none → H' a ≠ none := fun a h => by
    by_cases z : C0.rf ⟨H, G, adOf vs as, N.length, []⟩ a
    · obtain ⟨i, hi⟩ := z
      obtain ⟨h1, s, h2, h3⟩ := r'.rfs i a hi
      obtain ⟨o', ho⟩ := OwnAt.there r' ⟨i, s, h2, S.own_of_fixd h3, h1⟩
      rw [ho]; simp
    · cases q : H a with
      | none => exact absurd q h
      | some o => rw [r'.keep a o q z tb_nil]; simp
  have at_ : ∀ (i : Nat) (s : S), (merge as e')[i]? = some s → ∃ s0, as[i]? = some s0 ∧ ((s0.fixd = true ∧ e'[i]? = some s ∧ ∃ a, vs[i]? = some (.ref a) ∧ σ'[i]? = some (some (.ref a)) ∧ s.fixd = true) ∨ (s0.fixd = false ∧ s = s0)) := fun i s h => by
    have hi := (List.getElem?_eq_some_iff.mp h).1
    rw [merge_len hle] at hi
    obtain ⟨t, h1, h2⟩ := merge_at (List.getElem?_eq_getElem hi) hle
    rw [h] at h2
    cases hf : as[i].fixd with
    | false =>
      rw [hf] at h2
      cases h2
      exact ⟨as[i], List.getElem?_eq_getElem hi, .inr ⟨hf, rfl⟩⟩
    | true =>
      rw [hf] at h2
      cases h2
      have q := r.sl i as[i] (List.getElem?_eq_getElem hi)
      obtain ⟨a, ha⟩ : ∃ a, vs[i]? = some (.ref a) := by
        cases z : as[i] with
        | well n => rw [z] at q; obtain ⟨a, ha, _⟩ := q; exact ⟨a, ha⟩
        | wl n => rw [z] at q; obtain ⟨a, _, ha, _⟩ := q; exact ⟨a, ha⟩
        | no => rw [z] at hf; cases hf
        | d _ => rw [z] at hf; cases hf
        | ol _ => rw [z] at hf; cases hf
        | od _ _ => rw [z] at hf; cases hf
      obtain ⟨k1, t, k2, k3⟩ := r'.rfs i a (adOf_of (List.getElem?_eq_getElem hi) hf ha)
      rw [h1] at k2; cases k2
      exact ⟨as[i], List.getElem?_eq_getElem hi, .inl ⟨hf, h1, a, ha, k1, k3⟩⟩
  have ownat : ∀ (i : Nat) (s : S), (merge as e')[i]? = some s → s.own = true → e'[i]? = some s ∧ s.fixd = true ∧ ∃ a, vs[i]? = some (.ref a) ∧ σ'[i]? = some (some (.ref a)) := fun i s h o => by
    obtain ⟨s0, q, ⟨_, q1, a, q2, q3, q4⟩ | ⟨q1, rfl⟩⟩ := at_ i s h
    · exact ⟨q1, q4, a, q2, q3⟩
    · rw [r.fx i s q o] at q1; cases q1
  have sg : Same G G' := r'.gsub
  refine ⟨⟨by rw [merge_len hle]; exact hl, fun i s h => ?_, r'.gh, fun i s a h o ha => ?_, fun i j s t a h1 h2 h3 h4 h5 h6 => ?_, fun i s h o => (ownat i s h o).2.1⟩, sg, fun a o h n => ?_, fun a h => ?_, hth, fun i s h hf => ?_, fun i s h hf => ?_⟩
  · obtain ⟨s0, q, ⟨_, q1, a, q2, q3, q4⟩ | ⟨q1, rfl⟩⟩ := at_ i s h
    · have k := r'.sl i s q1
      rw [q3] at k
      rw [q2]
      exact k
    · exact (r.sl i s q).mono sg fun b o z _ _ => by rw [r.fx i s q z] at q1; cases q1
  · obtain ⟨k1, _, b, k2, k3⟩ := ownat i s h o
    rw [ha] at k2; cases k2
    exact (r'.own a ⟨i, s, k1, o, k3⟩).1
  · obtain ⟨k1, _, b, k2, k3⟩ := ownat i s h1 h3
    obtain ⟨l1, _, b', l2, l3⟩ := ownat j t h2 h4
    rw [h5] at k2; cases k2
    rw [h6] at l2; cases l2
    exact r'.inj i j s t a k1 l1 h3 h4 k3 l3
  · refine r'.keep a o h (fun ⟨i, hi⟩ => ?_) tb_nil
    obtain ⟨s, q1, q2, q3⟩ := adOf_some hi
    exact n ⟨i, s, q1, S.own_of_fixd q2, q3⟩
  · exact r'.gnew a h
  · obtain ⟨t, h1, h2⟩ := merge_at h hle
    rw [hf] at h2
    have z : ∃ a, vs[i]? = some (.ref a) := by
      have q := r.sl i s h
      cases s with
      | well n => obtain ⟨a, ha, _⟩ := q; exact ⟨a, ha⟩
      | wl n => obtain ⟨a, _, ha, _⟩ := q; exact ⟨a, ha⟩
      | no => cases hf
      | d _ => cases hf
      | ol _ => cases hf
      | od _ _ => cases hf
    obtain ⟨a, ha⟩ := z
    obtain ⟨_, t', k2, k3⟩ := r'.rfs i a (adOf_of h hf ha)
    rw [h1] at k2; cases k2
    exact ⟨t, h2, k3⟩
  · obtain ⟨t, h1, h2⟩ := merge_at h hle
    rw [hf] at h2
    exact h2
end
section
variable {P : Program} {w : World} {K : PySem.W.Frag} {mg : Str → Option Value} {base : Heap}
abbrev WE0 (E : XK) : WX := fun cl dd _ H => E cl dd H
/-- THE RULE for a def: its body as a term of rules, and what this reading of it promises -/
theorem fn_ok {x qual : Str} {st : Stmt} {f : Addr} {fd : FuncData} {N ps : List Str} {k : Nat} {sp : SpD} {t : TDS} (F : Fun K x qual st f fd) (SC : FnScope N ps (defScope st))
    (hbody : ∀ (cdv : Value) (A : Around) (outer : List Env) (s : Shared) (H : Hp) (E : XK) (c : C0), Room k (A.deeper (envOfC qual (defScope st) s.heap.objs.size f cdv)) →
      Takes (cxOf (L2.CX P w) P w K mg base N qual (defScope st) f cdv A outer s H E) (WE0 E) → PassesOwn (model P w) (cxOf (L2.CX P w) P w K mg base N qual (defScope st) f cdv A outer s H E).A (cxOf (L2.CX P w) P w K mg base N qual (defScope st) f cdv A outer s H E).env (cxOf (L2.CX P w) P w K mg base N qual (defScope st) f cdv A outer s H E).xe →
      DSs (cxOf (L2.CX P w) P w K mg base N qual (defScope st) f cdv A outer s H E) c (WE0 E) (defBody st) t)
    (hsp : ∀ (as : List S) (Qd : D → List S → Prop) (Xd : XV → List S → Prop), as.length = ps.length → sp as Qd Xd → t (fun x e => Xd x (merge as e)) { nx := fun e => Qd .non (merge as e), rt := fun d e => Qd d (merge as e) } (startE N.length as)) :
    FnOk P w K mg base (L2.CX P w) (k + 1) f fd ps (spOf K ps.length sp) := by
  refine F.okX SC (fun vs H Q E h => h.1) (fun cdv A outer s H vs Q E hr h => ?_)
  obtain ⟨hlen, G, as, Qd, Xd, ar, hs, hQ, hE⟩ := h
  have tk : Takes (cxOf (L2.CX P w) P w K mg base N qual (defScope st) f cdv A outer s H E) (WE0 E) := takes_of rfl rfl rfl rfl
  refine ⟨_, (hbody cdv A outer s H E ⟨H, G, adOf vs as, N.length, []⟩ hr tk (passes_of rfl)).pss, ?_⟩
  have hpl : ps.length ≤ N.length := by have := congrArg List.length SC.pre; rw [List.length_take] at this; omega
  have hN : vs.length ≤ N.length := by omega
  have r0 := ar.begin_ (N := N) hN
  refine ⟨G, startE N.length as, _, _, r0, hsp as Qd Xd (by rw [← ar.len]; exact hlen) hs, ?_⟩
  exact ⟨fun σ' G' H' e' r' sg q => hQ .non _ .non G' H' (ar.fin hN r') .non q, fun d v σ' G' H' e' r' sg rd q => hQ d _ v G' H' (ar.fin hN r') rd q, fun _ _ _ _ _ _ z => z.elim, fun _ _ _ _ _ _ z => z.elim,
    fun x' e' cl dd σ' G' H' r' sg rx q => hE x' _ cl dd G' H' (ar.fin hN r') rx q⟩
end

/-! ### calls -/
/-- all data -/
theorem slots_rep {K : PySem.W.Frag} {G : Hp} {vs : List V} {ds : List D} (h : RepDs K G ds vs) : ∀ (i : Nat) (s : S), (ds.map S.d)[i]? = some s → s.own = false ∧ s.fixd = false ∧ ∀ {H : Hp}, SlotR K G H s vs[i]? := fun i s q => by
  rw [List.getElem?_map] at q
  cases w : ds[i]? with
  | none => rw [w] at q; cases q
  | some d =>
    rw [w] at q; cases q
    obtain ⟨v, hv, rd⟩ := h.get' w
    exact ⟨rfl, rfl, fun {H} => ⟨v, hv, rd⟩⟩
section
variable {X : Cx} {c : C0} {W : WX} {k : Nat} {f : Addr} {fd : FuncData} {ps : List Str} {sp : SpD} {x : Str} {p pos : Pos} {e : Expr} {es : List Expr} {t : TDA} {dds : List D} {dvs : List V} {dsv : List Value}
/-- f(data, ..); dds: the defaults -/
def dCall (n : Nat) (sp : SpD) (dds : List D) (t : TDA) : TDE := fun Xd e Q => t Xd e fun as e1 => ∃ ds, dats as = some ds ∧ (ds ++ dds).length = n ∧ sp ((ds ++ dds).map S.d) (fun d _ => Q (.d d) e1) (fun x _ => Xd x e1)
theorem call_data {K : PySem.W.Frag} {n : Nat} {σ : St} {G H : Hp} {e1 : List S} {ds : List D} {vs : List V} {Xd : XD} {Q : VK} {Qd : R → List S → Prop} (rel : Rel K c G H σ e1) (rd : RepDs K G ds vs) (hl : ds.length = n) (h : sp (ds.map S.d) (fun d _ => Qd (.d d) e1) (fun x _ => Xd x e1))
    (hQ : ∀ (ρ : R) (e' : List S) (v : V) (G' H' : Hp), Step K c σ G H e1 G' H' e' → RepR K H G' H' σ e' ρ v → Qd ρ e' → Q v H') (hX : KE K c W Xd σ G H e1) : spOf K n sp vs H Q (WE W σ) := by
  have nod : ∀ (i : Nat) (s : S), (ds.map S.d)[i]? = some s → s.own = true → False := fun i s q o => by
    rw [(slots_rep rd i s q).1] at o; cases o
  have st : ∀ {G' H' : Hp} {as' : List S}, CStep K G H vs (ds.map S.d) G' H' as' → Step K c σ G H e1 G' H' e1 := fun {G' H' as'} cs =>
    Step.ext rel (fun a o h => cs.fr a o h fun ⟨i, s, q, o, _⟩ => nod i s q o) cs.sg cs.ar.gh cs.gn
  refine ⟨by rw [← rd.length]; exact hl, G, ds.map S.d, _, _, ⟨by rw [List.length_map]; exact rd.length.symm, fun i s q => (slots_rep rd i s q).2.2, rel.gh, fun i s a q o => (nod i s q o).elim, fun i j s t a q _ o => (nod i s q o).elim, fun i s q o => (nod i s q o).elim⟩, h, ?_, ?_⟩
  · exact fun d as' v G' H' cs rv q => hQ (.d d) e1 v G' H' (st cs) rv q
  · exact fun x as' cl dd G' H' cs rx q => hX x e1 cl dd G' H' (st cs) rx q
theorem de_call (F : FnOk X.prog X.w X.K X.mg X.base (L2.CX X.prog X.w) k f fd ps (spOf X.K ps.length sp)) (hr : Room k X.A) (tk : Takes X W) (hg : Gl X x) (hm : X.mg x = some (.ref f)) (hk : PySem.W.keepIn X.K (.ref f) = true) (hb : Binds X.K fd ps dsv) (hd : Vals dvs dsv)
    (hdd : ∀ G, RepDs X.K G dds dvs) (ha : DA X c W (e :: es) t) (hdb : (x == ("__debug__" : Str)) = false := by decide) (he : starEach (e :: es) X.env = (false, eval e X.env) :: starEach es X.env := by rfl) (hpl : (backTo pos (starEach es X.env)).any (·.1) = false := by rfl) :
    DE X c W (.Call (.Name x p) (e :: es) [] pos) (dCall ps.length sp dds t) := by
  refine ⟨PE.imp (pe_callSD F hr hg hm hk hb hd (fun σ => passAt tk σ) ha.pa hdb he hpl) fun σ H Q ⟨G, e0, Qd, Xd, rel, h, hQ, hX⟩ => ?_⟩
  refine ⟨G, e0, _, Xd, rel, h, fun as e1 vs G1 H1 s1 r1 h1 => ?_, hX⟩
  obtain ⟨ds, hds, hl, h1⟩ := h1
  exact call_data s1.rel ((dats_rep r1 hds).append (hdd G1)) hl h1 (fun ρ e' v G' H' st rr q => hQ ρ e' v G' H' (s1.trans rel st) (rr.back s1) q) (hX.step rel s1)
/-- f(thing by reference, data, ..) -/
def dCallR (n : Nat) (sp : SpD) (t : TDA) : TDE := fun Xd e Q => t Xd e fun as e1 => ∃ i r ds s, as = .rf i :: r ∧ dats r = some ds ∧ ds.length + 1 = n ∧ e1[i]? = some s ∧ s.fixd = true ∧
  sp (s :: ds.map S.d) (fun d as' => ∃ s' r', as' = s' :: r' ∧ Q (.d d) (e1.set i s')) (fun x as' => ∃ s' r', as' = s' :: r' ∧ Xd x (e1.set i s'))
theorem Step.byref {K : PySem.W.Frag} {σ : St} {G H G' H' : Hp} {e1 : List S} {i : Nat} {s : S} {a : Addr} {ds : List D} {vs : List V} {as' : List S} (r : Rel K c G H σ e1) (rd : RepDs K G ds vs) (hs : e1[i]? = some s) (hf : s.fixd = true) (hv : σ[i]? = some (some (.ref a)))
    (cs : CStep K G H (.ref a :: vs) (s :: ds.map S.d) G' H' as') : ∃ s' r', as' = s' :: r' ∧ Step K c σ G H e1 G' H' (e1.set i s') := by
  obtain ⟨s', h0, hf'⟩ := cs.fx 0 s rfl hf
  obtain ⟨r', rfl⟩ : ∃ r', as' = s' :: r' := by
    cases as' with
    | nil => cases h0
    | cons q r' => simp at h0; subst h0; exact ⟨r', rfl⟩
  have oa : OwnAt σ e1 a := ⟨i, s, hs, S.own_of_fixd hf, hv⟩
  have hi := (List.getElem?_eq_some_iff.mp hs).1
  have at_ : ∀ (j : Nat) (t : S), (e1.set i s')[j]? = some t → (j = i ∧ t = s') ∨ (j ≠ i ∧ e1[j]? = some t) := fun j t h => by
    by_cases z : i = j
    · subst z; rw [List.getElem?_set_self hi] at h; cases h; exact .inl ⟨rfl, rfl⟩
    · rw [List.getElem?_set_ne z] at h; exact .inr ⟨fun q => z q.symm, h⟩
  have ow : ∀ b, OwnAt σ (e1.set i s') b → OwnAt σ e1 b := fun b ⟨j, t, h1, h2, h3⟩ => by
    rcases at_ j t h1 with ⟨rfl, rfl⟩ | ⟨_, q⟩
    · exact ⟨j, _, hs, S.own_of_fixd hf, h3⟩
    · exact ⟨j, t, q, h2, h3⟩
  have byr : ∀ b, ByRef (.ref a :: vs) (s :: ds.map S.d) b → b = a := fun b ⟨j, t, h1, h2, h3⟩ => by
    cases j with
    | zero => simp at h3; exact h3.symm
    | succ j =>
      have := (slots_rep rd j t (by simpa using h1)).1
      rw [h2] at this; cases this
  have fr : ∀ b o, H b = some o → b ≠ a → H' b = some o := fun b o h n => cs.fr b o h fun z => n (byr b z)
  have hsl : SlotR K G' H' s' (some (.ref a)) := by simpa using cs.ar.sl 0 s' rfl
  have hga : G' a = none := cs.ar.own 0 s' a rfl (S.own_of_fixd hf') rfl
  obtain ⟨u0, hu0, hu1, hu2⟩ := r.ownH oa
  refine ⟨s', r', rfl, ⟨⟨by rw [List.length_set]; exact r.len, fun j t h => ?_, cs.ar.gh, fun b o h n t0 => ?_, r.gsub.trans cs.sg, fun b h => ?_, fun b hb => ?_, fun j k t u b h1 h2 h3 h4 h5 h6 => ?_, fun j b h => ?_, by rw [List.length_set]; exact r.ln, r.tabs.fr hu0 hu1 hu2 fr, fun b hb => by
    cases q : G' b with
    | none => rfl
    | some o =>
      rcases cs.gn b (by rw [q]; simp) with z | z
      · exact absurd (r.gt b hb) z
      · exact absurd z (r.tabs.there hb)⟩, cs.sg, fun b o h n _ => ?_, fun b h => (cs.gn b h).imp_right .inl, ow, cs.th, r.tabs⟩⟩
  · rcases at_ j t h with ⟨rfl, rfl⟩ | ⟨nj, q⟩
    · rw [hv]; exact hsl
    · refine (r.sl j t q).mono cs.sg fun b o q1 q2 q3 => fr b o q3 fun z => ?_
      subst z
      refine nj (r.inj j i t s b q hs q1 (S.own_of_fixd hf) ?_ hv)
      cases w : σ[j]? with
      | none => rw [w] at q2; cases q2
      | some x => rw [w] at q2; cases q2; rfl
  · have hne : b ≠ a := fun z => by
      subst z
      rcases (r.own b oa).2 with q | q
      · rw [q] at h; cases h
      · exact n q
    exact fr b o (r.keep b o h n t0) hne
  · rcases cs.gn b h with q | q
    · exact r.gnew b q
    · exact .inr (r.fresh0 q)
  · refine ⟨?_, (r.own b (ow b hb)).2⟩
    by_cases z : b = a
    · subst z; exact hga
    · cases q : G' b with
      | none => rfl
      | some o =>
        rcases cs.gn b (by rw [q]; simp) with w | w
        · exact absurd (r.own b (ow b hb)).1 w
        · obtain ⟨o', ho'⟩ := OwnAt.there r (ow b hb)
          rw [w] at ho'; cases ho'
  · have g : ∀ (j : Nat) (t : S), (e1.set i s')[j]? = some t → t.own = true → ∃ t', e1[j]? = some t' ∧ t'.own = true := fun j t h o => by
      rcases at_ j t h with ⟨rfl, _⟩ | ⟨_, q⟩
      · exact ⟨_, hs, S.own_of_fixd hf⟩
      · exact ⟨t, q, o⟩
    obtain ⟨t', q1, q2⟩ := g j t h1 h3
    obtain ⟨u', p1, p2⟩ := g k u h2 h4
    exact r.inj j k t' u' b q1 p1 q2 p2 h5 h6
  · obtain ⟨h1, t, h2, h3⟩ := r.rfs j b h
    refine ⟨h1, ?_⟩
    by_cases z : i = j
    · subst z; exact ⟨s', List.getElem?_set_self hi, hf'⟩
    · exact ⟨t, by rw [List.getElem?_set_ne z]; exact h2, h3⟩
  · exact fr b o h fun z => by subst z; exact n oa
theorem de_callR (F : FnOk X.prog X.w X.K X.mg X.base (L2.CX X.prog X.w) k f fd ps (spOf X.K ps.length sp)) (hr : Room k X.A) (tk : Takes X W) (hg : Gl X x) (hm : X.mg x = some (.ref f)) (hk : PySem.W.keepIn X.K (.ref f) = true) (hb : Binds X.K fd ps [])
    (ha : DA X c W (e :: es) t) (hdb : (x == ("__debug__" : Str)) = false := by decide) (he : starEach (e :: es) X.env = (false, eval e X.env) :: starEach es X.env := by rfl) (hpl : (backTo pos (starEach es X.env)).any (·.1) = false := by rfl) :
    DE X c W (.Call (.Name x p) (e :: es) [] pos) (dCallR ps.length sp t) := by
  refine ⟨PE.imp (pe_callSD F hr hg hm hk hb .nil (fun σ => passAt tk σ) ha.pa hdb he hpl) fun σ H Q ⟨G, e0, Qd, Xd, rel, h, hQ, hX⟩ => ?_⟩
  refine ⟨G, e0, _, Xd, rel, h, fun as e1 vs G1 H1 s1 r1 h1 => ?_, hX⟩
  obtain ⟨i, r, ds, s, rfl, hds, hl, hs, hf, h1⟩ := h1
  cases r1 with
  | @cons _ v _ vr rv rr =>
    have hv : σ[i]? = some (some v) := rv
    have rd := dats_rep rr hds
    obtain ⟨a, rfl⟩ : ∃ a, v = .ref a := by
      have q := s1.rel.slot hs hv
      cases s with
      | well n => obtain ⟨a, ha, _⟩ := q; cases ha; exact ⟨a, rfl⟩
      | wl n => obtain ⟨a, _, ha, _⟩ := q; cases ha; exact ⟨a, rfl⟩
      | no => cases hf
      | d _ => cases hf
      | ol _ => cases hf
      | od _ _ => cases hf
    have ga := (s1.rel.own a ⟨i, s, hs, S.own_of_fixd hf, hv⟩).1
    have at_ : ∀ (j : Nat) (t : S), (s :: ds.map S.d)[j]? = some t → t.own = true → j = 0 ∧ t = s := fun j t q o => by
      cases j with
      | zero => simp at q; exact ⟨rfl, q.symm⟩
      | succ j => rw [(slots_rep rd j t (by simpa using q)).1] at o; cases o
    show spOf X.K ps.length sp (V.ref a :: vr ++ []) H1 Q (WE W σ)
    rw [List.append_nil]
    refine ⟨by rw [List.length_cons, ← rd.length]; exact hl, G1, s :: ds.map S.d, _, _, ⟨by simp [rd.length], fun j t q => ?_, s1.rel.gh, fun j t b q o hb => ?_, fun j l t u b q1 q2 o1 o2 _ _ => ?_, fun j t q o => ?_⟩, h1, ?_, ?_⟩
    · cases j with
      | zero =>
        have e0 : s = t := by simpa using q
        subst e0
        exact s1.rel.slot hs hv
      | succ j => exact (slots_rep rd j t (by simpa using q)).2.2
    · obtain ⟨rfl, rfl⟩ := at_ j t q o
      have e0 : V.ref a = V.ref b := by simpa using hb
      cases e0
      exact ga
    · obtain ⟨rfl, _⟩ := at_ j t q1 o1
      obtain ⟨rfl, _⟩ := at_ l u q2 o2
      rfl
    · obtain ⟨rfl, rfl⟩ := at_ j t q o
      exact hf
    · intro d as' v' G' H' cs rv' ⟨s', r', e2, q⟩
      obtain ⟨s2, r2, e3, st⟩ := Step.byref s1.rel rd hs hf hv cs
      rw [e3] at e2; cases e2
      exact hQ (.d d) _ v' G' H' (s1.trans rel st) rv' q
    · intro x' as' cl dd G' H' cs rx ⟨s', r', e2, q⟩
      obtain ⟨s2, r2, e3, st⟩ := Step.byref s1.rel rd hs hf hv cs
      rw [e3] at e2; cases e2
      exact hX x' _ cl dd G' H' (s1.trans rel st) (rx.back (none_back s1.th)) q
end
end L3

/-! L3: more operators, chains, in, stars, names of the module, bundles -/
namespace L3
open PySem PySem.Spec PyProof.Rows L2

section
variable {K : PySem.W.Frag}
theorem Op3.or {r r' : R2} {p p' : R3} (h : Op3 K r p) (h' : Op3 K r' p') : Op3 K (fun x y H Q => r x y H Q ∨ r' x y H Q) (fun d e Q => p d e Q ∨ p' d e Q) := fun G H d1 d2 x y Qr Q sg h1 h2 q k => by
  rcases q with q | q
  · exact .inl (h G H d1 d2 x y Qr Q sg h1 h2 q k)
  · exact .inr (h' G H d1 d2 x y Qr Q sg h1 h2 q k)
/-! ### + -/
def r3Plus : R3 := fun d e Q => r3Add d e Q ∨ r3AddS d e Q ∨ r3AddL d e Q ∨ r3AddT d e Q
def r2Plus (K : PySem.W.Frag) : R2 := fun x y H Q => (rI0 (fun i j => .int (i + j)) x y H Q) ∨ (∃ i j, x = .str i ∧ y = .str j ∧ i.length + j.length ≤ sizeLine ∧ Q (.str (i ++ j)) H) ∨ rCat x y H Q ∨ rCatA K x y H Q
theorem o3_plus : Op3 K (r2Plus K) r3Plus := Op3.or o3_int0 (Op3.or o3_addS (Op3.or o3_addL o3_addT))
theorem op_plus {X : Cx} : OpR X (binaryOp .Add) (r2Plus X.K) := op_add.or (op_add_str.or (op_cat.or op_catA))
/-! ### * -/
theorem o3_mulL : Op3 K rRep r3MulL := by
  rintro G H d1 d2 x y Qr Q sg h1 h2 ⟨xs, i, rfl, rfl, b1, b2, hl, q⟩ k
  obtain ⟨a, vs, rfl, ha, ra⟩ := h1.lst sg
  have l1 := ra.length
  exact ⟨a, i, vs, rfl, h2.int, ha, b1, b2, Nat.le_trans (by rw [← l1]; exact hl) mil, fun p hp => k _ _ _ _ (.nl hp (ra.rep i.toNat)) q⟩
def r3Times : R3 := fun d e Q => r3Mul d e Q ∨ r3MulL d e Q
theorem o3_times : Op3 K (fun x y H Q => rI CMul (fun i j => .int (i * j)) x y H Q ∨ rRep x y H Q) r3Times := Op3.or o3_int o3_mulL
theorem op_times {X : Cx} : OpR X (binaryOp .Mult) (fun x y H Q => rI CMul (fun i j => .int (i * j)) x y H Q ∨ rRep x y H Q) := op_mul.or op_rep
/-! ### in -/
def inStr (i j : Str) : Bool := !(Builtin.Str.occurrences j i 0 j.length 1).isEmpty
def D.flat0 : D → Bool
  | .non => true
  | .bl _ => true
  | .int _ => true
  | .str _ => true
  | _ => false
def inD (d : D) (xs : List D) : Bool := xs.any fun y => D.eqv y d
def r3In : R3 := fun d e Q => (∃ i j, d = .str i ∧ e = .str j ∧ Q (.d (.bl (inStr i j)))) ∨ ∃ xs, (e = .lst xs ∨ e = .tup xs) ∧ d.flat0 = true ∧ xs.all D.flat0 = true ∧ Q (.d (.bl (inD d xs)))
def r3NotIn : R3 := fun d e Q => (∃ i j, d = .str i ∧ e = .str j ∧ Q (.d (.bl (!inStr i j)))) ∨ ∃ xs, (e = .lst xs ∨ e = .tup xs) ∧ d.flat0 = true ∧ xs.all D.flat0 = true ∧ Q (.d (.bl (!inD d xs)))
theorem flat0_v {G : Hp} {d : D} {v : V} (h : RepD K G d v) (f : d.flat0 = true) : flatV v = true := by
  cases h <;> first | rfl | (simp [D.flat0] at f)
theorem flats_v {G : Hp} : ∀ {xs : List D} {vs : List V}, RepDs K G xs vs → xs.all D.flat0 = true → vs.all flatV = true
  | _, _, .nil, _ => rfl
  | _, _, .cons h r, f => by
    rw [List.all_cons, Bool.and_eq_true] at f
    rw [List.all_cons, flat0_v h f.1, flats_v r f.2]; rfl
theorem eqv_v {G : Hp} {d e : D} {v u : V} (h : RepD K G d v) (k : RepD K G e u) (f : d.flat0 = true) (g : e.flat0 = true) : eqV v u = D.eqv d e := by
  cases h <;> cases k <;> first | rfl | (simp [D.flat0] at f; done) | (simp [D.flat0] at g; done) | simp [eqV, D.eqv]
theorem in_v {G : Hp} {d : D} {v : V} (h : RepD K G d v) (f : d.flat0 = true) : ∀ {xs : List D} {vs : List V}, RepDs K G xs vs → xs.all D.flat0 = true → inV v vs = inD d xs
  | _, _, .nil, _ => rfl
  | _, _, .cons k r, g => by
    rw [List.all_cons, Bool.and_eq_true] at g
    unfold inV inD
    rw [List.any_cons, List.any_cons, eqv_v k h g.1 f]
    congr 1
    exact in_v h f r g.2
theorem DV.flat0 {G H : Hp} {d : D} {v : V} (h : DV K G H d v) (f : d.flat0 = true) : RepD K G d v := by
  rcases h with h | ⟨_, _, _, rfl, _⟩ | ⟨_, _, _, _, rfl, _⟩
  · exact h
  · cases f
  · cases f
theorem in_seq {G H : Hp} {e : D} {y : V} {xs : List D} (sg : Same G H) (h : DV K G H e y) (he : e = .lst xs ∨ e = .tup xs) : ∃ p vs, y = .ref p ∧ (SqL K H p vs ∨ SqT K H p vs) ∧ RepDs K G xs vs := by
  rcases he with rfl | rfl
  · obtain ⟨a, vs, rfl, ha, ra⟩ := h.lst sg; exact ⟨a, vs, rfl, .inl (.inl (.inl ha)), ra⟩
  · obtain ⟨a, vs, rfl, ha, ra⟩ := h.tup sg; exact ⟨a, vs, rfl, .inr ha, ra⟩
theorem o3_in : Op3 K (fun x y H Q => (∃ i j, x = .str i ∧ y = .str j ∧ Q (.bl (!(Builtin.Str.occurrences j i 0 j.length 1).isEmpty)) H) ∨ rIn K false x y H Q) r3In := by
  rintro G H d1 d2 x y Qr Q sg h1 h2 (⟨i, j, rfl, rfl, q⟩ | ⟨xs, he, f, g, q⟩) k
  · exact .inl ⟨i, j, h1.str, h2.str, k _ _ _ _ (.d (.bl _)) q⟩
  · obtain ⟨p, vs, rfl, hp, rv⟩ := in_seq sg h2 he
    have hd := h1.flat0 f
    refine .inr ⟨p, vs, rfl, hp, flat0_v hd f, flats_v rv g, ?_⟩
    show Q (.bl (inV x vs)) H
    rw [in_v hd f rv g]
    exact k _ _ _ _ (.d (.bl _)) q
theorem o3_notIn : Op3 K (fun x y H Q => (∃ i j, x = .str i ∧ y = .str j ∧ Q (.bl (!(!(Builtin.Str.occurrences j i 0 j.length 1).isEmpty))) H) ∨ rIn K true x y H Q) r3NotIn := by
  rintro G H d1 d2 x y Qr Q sg h1 h2 (⟨i, j, rfl, rfl, q⟩ | ⟨xs, he, f, g, q⟩) k
  · exact .inl ⟨i, j, h1.str, h2.str, k _ _ _ _ (.d (.bl _)) q⟩
  · obtain ⟨p, vs, rfl, hp, rv⟩ := in_seq sg h2 he
    have hd := h1.flat0 f
    refine .inr ⟨p, vs, rfl, hp, flat0_v hd f, flats_v rv g, ?_⟩
    show Q (.bl (!inV x vs)) H
    rw [in_v hd f rv g]
    exact k _ _ _ _ (.d (.bl _)) q
theorem op_in {X : Cx} : OpR X (compareOp .In) (fun x y H Q => (∃ i j, x = .str i ∧ y = .str j ∧ Q (.bl (!(Builtin.Str.occurrences j i 0 j.length 1).isEmpty)) H) ∨ rIn X.K false x y H Q) := op_in_str.or op_in_seq
theorem op_notIn {X : Cx} : OpR X (compareOp .NotIn) (fun x y H Q => (∃ i j, x = .str i ∧ y = .str j ∧ Q (.bl (!(!(Builtin.Str.occurrences j i 0 j.length 1).isEmpty))) H) ∨ rIn X.K true x y H Q) := op_notIn_str.or op_notIn_seq
/-! ### is -/
def r3Is : R3 := fun d e Q => r3IsN d e Q ∨ r3IsB d e Q
def r3IsNot : R3 := fun d e Q => r3NotN d e Q ∨ r3NotB d e Q
theorem o3_is : Op3 K (fun x y H Q => (y = .non ∧ Q (.bl (decide (x = .non))) H) ∨ rIsB x y H Q) r3Is := Op3.or o3_isN o3_isB
theorem o3_isNot : Op3 K (fun x y H Q => (y = .non ∧ Q (.bl (!decide (x = .non))) H) ∨ rNotB x y H Q) r3IsNot := Op3.or o3_notN o3_notB
theorem op_is {X : Cx} : OpR X (compareOp .Is) (fun x y H Q => (y = .non ∧ Q (.bl (decide (x = .non))) H) ∨ rIsB x y H Q) := op_isN.or op_isBl
theorem op_isNot {X : Cx} : OpR X (compareOp .IsNot) (fun x y H Q => (y = .non ∧ Q (.bl (!decide (x = .non))) H) ∨ rNotB x y H Q) := op_notN.or op_notBl
end

/-! ### a op b op c, -a -/
section
variable {X : Cx} {c : C0} {W : WX} {a b e : Expr} {ta tb tc : TDE} {pos : Pos} {r r' : R2} {r3 r3' : R3}
def dChain (r3 r3' : R3) (ta tb tc : TDE) : TDE := fun Xd e Q => ta Xd e fun ρ1 e1 => tb Xd e1 fun ρ2 e2 => ∃ d1 d2, see e2 ρ1 = some d1 ∧ see e2 ρ2 = some d2 ∧ r3 d1 d2 fun ρ => ∃ k, ρ = .d (.bl k) ∧
  if k = true then tc Xd e2 fun ρ3 e3 => ∃ d2 d3, see e3 ρ2 = some d2 ∧ see e3 ρ3 = some d3 ∧ r3' d2 d3 fun ρ' => Q ρ' e3 else Q (.d (.bl false)) e2
theorem lift_chain {K : PySem.W.Frag} {σ : St} {H : Hp} {Q : VK} (h3 : Op3 K r r3) (h3' : Op3 K r' r3') (h : liftE K c W (dChain r3 r3' ta tb tc) σ H Q) : tChain r r' (liftE K c W ta) (liftE K c W tb) (liftE K c W tc) σ H Q := by
  obtain ⟨G, e, Qd, Xd, rel, h, hQ, hX⟩ := h
  refine ⟨G, e, _, Xd, rel, h, fun ρ1 e1 v1 G1 H1 st1 r1 h1 => ?_, hX⟩
  refine ⟨G1, e1, _, Xd, st1.rel, h1, fun ρ2 e2 v2 G2 H2 st2 r2 h2 => ?_, hX.step rel st1⟩
  obtain ⟨d1, d2, s1, s2, h2⟩ := h2
  have st := st1.trans rel st2
  refine h3 G2 H2 d1 d2 v1 v2 _ _ st.rel.gh ((r1.step st2).see st.rel s1) (r2.see st.rel s2) h2 fun ρ v G' H' o ⟨k, ek, q⟩ => ?_
  subst ek
  cases o with
  | d rb =>
    cases rb
    refine ⟨k, rfl, ?_⟩
    cases k with
    | false =>
      rw [if_neg Bool.false_ne_true] at q ⊢
      exact hQ (.d (.bl false)) e2 _ G2 H2 st (RepD.bl false) q
    | true =>
      rw [if_pos rfl] at q ⊢
      refine ⟨G2, e2, _, Xd, st.rel, q, fun ρ3 e3 v3 G3 H3 st3 r3 h3 => ?_, hX.step rel st⟩
      obtain ⟨f1, f2, t1, t2, h4⟩ := h3
      have stt := st.trans rel st3
      refine h3' G3 H3 f1 f2 v2 v3 _ Q stt.rel.gh ((r2.step st3).see stt.rel t1) (r3.see stt.rel t2) h4 fun ρ' v' G' H' o' q' => ?_
      obtain ⟨st4, r4⟩ := o'.step stt.rel
      exact hQ ρ' e3 v' G' H' (stt.trans rel st4) (r4.back stt) q'
theorem de_chain {op op' : CmpOp} {cx : Expr} (ho : OpR X (compareOp op) r) (h3 : Op3 X.K r r3) (ho' : OpR X (compareOp op') r') (h3' : Op3 X.K r' r3') (ha : DE X c W a ta) (hb : DE X c W b tb) (hc : DE X c W cx tc) (hm : lastMarks [op, op'] [b, cx] = false := by with_unfolding_all rfl) :
    DE X c W (.Compare a [op, op'] [b, cx] pos) (dChain r3 r3' ta tb tc) := ⟨PE.imp (pe_chain ho ho' ha.pe hb.pe hc.pe hm) fun σ H Q h => lift_chain h3 h3' h⟩
theorem dt_chain {op op' : CmpOp} {cx : Expr} (ho : OpR X (compareOp op) r) (h3 : Op3 X.K r r3) (ho' : OpR X (compareOp op') r') (h3' : Op3 X.K r' r3') (ha : DE X c W a ta) (hb : DE X c W b tb) (hc : DE X c W cx tc) (hm : lastMarks [op, op'] [b, cx] = false := by with_unfolding_all rfl) :
    DT X c W (.Compare a [op, op'] [b, cx] pos) (dB (dChain r3 r3' ta tb tc)) := by
  refine ⟨PT.imp (pt_chain ho ho' ha.pe hb.pe hc.pe hm) fun σ H Q ⟨G, e, Qd, Xd, rel, h, hQ, hX⟩ => ?_⟩
  refine lift_chain h3 h3' ⟨G, e, _, Xd, rel, h, fun ρ1 e1 v1 G1 H1 st1 r1 h1 => ?_, hX⟩
  obtain ⟨b, s1, h1⟩ := h1
  exact ⟨b, (r1.see st1.rel s1).bl, hQ b e1 G1 H1 st1 h1⟩
def r31Neg : R31 := fun d Q => ∃ i, d = .int i ∧ Q (.d (.int (-i)))
theorem de_neg (ha : DE X c W a ta) : DE X c W (.UnaryOp .USub a pos) (dUn r31Neg ta) := by
  refine ⟨PE.imp (pe_un un_neg ha.pe) fun σ H Q h => ?_⟩
  refine lift_un (r := fun x H Q => rU (fun i => V.int (-i)) x H Q) (fun G H d x Qr Q sg hd ⟨i, e, q⟩ k => ?_) h
  subst e
  exact ⟨i, hd.int, k _ _ _ _ (.d (.int _)) q⟩
end

/-! ### a star in a display -/
section
variable {X : Cx} {c : C0} {W : WX} {ex : Expr} {es : List Expr} {te : TDE} {t : TDA} {pos : Pos}
def dStar (te : TDE) (t : TDA) : TDA := fun Xd e Q => te Xd e fun ρ e1 => ∃ xs, (see e1 ρ = some (.lst xs) ∨ see e1 ρ = some (.tup xs)) ∧ t Xd (fz e1 ρ) fun as e2 => Q (xs.map AR.d ++ as) e2
theorem reps_app {K : PySem.W.Frag} {G : Hp} {σ : St} {as : List AR} {ys : List V} (h : RepAs K G σ as ys) : ∀ {xs : List D} {vs : List V}, RepDs K G xs vs → RepAs K G σ (xs.map AR.d ++ as) (vs ++ ys)
  | _, _, .nil => h
  | _, _, .cons k r => .cons k (reps_app h r)
theorem da_star (ha : DE X c W ex te) (hr : DA X c W es t) (hs : starEach (.Starred ex pos :: es) X.env = (true, eval ex X.env) :: starEach es X.env := by rfl) : DA X c W (.Starred ex pos :: es) (dStar te t) := by
  refine ⟨PA.imp (StX.pa_star ha.pe hr.pa hs) fun σ H Q ⟨G, e, Qd, Xd, rel, h, hQ, hX⟩ => ?_⟩
  refine ⟨G, e, _, Xd, rel, h, fun ρ1 e1 v1 G1 H1 st1 r1 h1 => ?_, hX⟩
  obtain ⟨xs, sd, h1⟩ := h1
  rcases sd with sd | sd
  · obtain ⟨G2, s2, rd, _⟩ := Step.asD rel st1 r1 sd
    cases rd with
    | @lst a vs _ k1 k2 =>
      refine ⟨a, vs, rfl, .inr (.inl (.inl (s2.rel.gh _ _ k1))), G2, _, _, Xd, s2.rel, h1, fun as e3 ys G3 H3 s3 r3 h3 => ?_, hX.step rel s2⟩
      exact hQ _ e3 _ G3 H3 (s2.trans rel s3) (reps_app r3 (RepDs.mono s3.sg k2)) h3
  · obtain ⟨G2, s2, rd, _⟩ := Step.asD rel st1 r1 sd
    cases rd with
    | @tup a vs _ k1 k2 =>
      refine ⟨a, vs, rfl, .inl (Same.seqT s2.rel.gh k1), G2, _, _, Xd, s2.rel, h1, fun as e3 ys G3 H3 s3 r3 h3 => ?_, hX.step rel s2⟩
      exact hQ _ e3 _ G3 H3 (s2.trans rel s3) (reps_app r3 (RepDs.mono s3.sg k2)) h3
end

/-! ### names of the module -/
/-- a module's constant -/
structure Glo (K : PySem.W.Frag) (mg : Str → Option Value) (x : Str) (d : D) : Prop where
  ex : ∃ u v, mg x = some u ∧ RelV v u ∧ ∀ G, RepD K G d v
theorem dgl {X : Cx} {c : C0} {W : WX} {x : Str} {d : D} {pos : Pos} (h : Glo X.K X.mg x d) (hg : Gl X x := by rfl) (hd : (x == ("__debug__" : Str)) = false := by decide) : DE X c W (.Name x pos) (dC d) := by
  obtain ⟨u, v, h1, h2, h3⟩ := h.ex
  exact de_glob hg h1 h2 h3 hd
/-- a def of the module, called by places -/
structure Cal (P : Program) (w : World) (K : PySem.W.Frag) (mg : Str → Option Value) (base : Heap) (k : Nat) (x : Str) (n : Nat) (sp : SpD) (dds : List D) : Prop where
  ex : ∃ (f : Addr) (fd : FuncData) (ps : List Str) (dvs : List V) (dsv : List Value), ps.length = n ∧ FnOk P w K mg base (L2.CX P w) k f fd ps (spOf K n sp) ∧ mg x = some (.ref f) ∧ PySem.W.keepIn K (.ref f) = true ∧ Binds K fd ps dsv ∧ Vals dvs dsv ∧ ∀ G, RepDs K G dds dvs
section
variable {X : Cx} {c : C0} {W : WX} {k j n : Nat} {sp : SpD} {x : Str} {p pos : Pos} {e : Expr} {es : List Expr} {t : TDA} {dds : List D}
theorem de_c (C : Cal X.prog X.w X.K X.mg X.base k x n sp dds) (hr : Room j X.A) (hk : k ≤ j) (tk : Takes X W) (ha : DA X c W (e :: es) t) (hg : Gl X x := by rfl) (hdb : (x == ("__debug__" : Str)) = false := by decide) (he : starEach (e :: es) X.env = (false, eval e X.env) :: starEach es X.env := by rfl)
    (hpl : (backTo pos (starEach es X.env)).any (·.1) = false := by rfl) : DE X c W (.Call (.Name x p) (e :: es) [] pos) (dCall n sp dds t) := by
  obtain ⟨f, fd, ps, dvs, dsv, rfl, F, hm, hkp, hb, hd, hdd⟩ := C.ex
  exact de_call F (hr.mono hk) tk hg hm hkp hb hd hdd ha hdb he hpl
theorem de_cr (C : Cal X.prog X.w X.K X.mg X.base k x n sp []) (hr : Room j X.A) (hk : k ≤ j) (tk : Takes X W) (ha : DA X c W (e :: es) t) (hg : Gl X x := by rfl) (hdb : (x == ("__debug__" : Str)) = false := by decide) (he : starEach (e :: es) X.env = (false, eval e X.env) :: starEach es X.env := by rfl)
    (hpl : (backTo pos (starEach es X.env)).any (·.1) = false := by rfl) : DE X c W (.Call (.Name x p) (e :: es) [] pos) (dCallR n sp t) := by
  obtain ⟨f, fd, ps, dvs, dsv, rfl, F, hm, hkp, hb, hd, hdd⟩ := C.ex
  have e0 : dvs = [] := by
    have := (hdd fun _ => none).length
    simpa using this.symm
  subst e0
  cases hd
  exact de_callR F (hr.mono hk) tk hg hm hkp hb ha hdb he hpl
end
theorem room200 {k : Nat} {A : Around} (r : Room k A) : A.units + 200 < cLine := by have := r.un; omega
end L3

/-! L3: tuple * int, any small count -/
namespace L3
open PySem PySem.Spec PyProof.Rows L2
theorem tmul_same (l : Addr) (items : Array Value) (n : Nat) (dd : Option Addr) (sl : Array (Option Value)) (x : Int) (u : Tok) (c0 : (decide (x < -(2 ^ 63)) || decide (x ≥ 2 ^ 63)) = false) (c1 : (items.isEmpty || x == 1) = true) :
    Meets (Builtin.«tuple.__mul__» ⟨[.ref l, .int x u], []⟩) (fun _ R s => s.heap.get? l = some { cls := .type "tuple", dict := dd, data := .seq items n, slots := sl } ∧ R (.ok (.ret (Value.ref l))) s) :=
  .of_wp fun prog w A R s h => by
    obtain ⟨hp, g, d, tk, os⟩ := s
    obtain ⟨hl, h⟩ := h
    have f1 := AutoSeq1.idx_int
    wp_walk using wpAny_loadPart' hl
    repeat (first
      | (refine wpAny_ite_false (decide_eq_false (by rw [c0]; exact Bool.false_ne_true)) ?_; wp_walk using wpAny_loadPart' hl)
      | (refine wpAny_ite_true (decide_eq_true (by rw [c1])) ?_; wp_walk using wpAny_loadPart' hl))
    exact ⟨_, rfl, h⟩
theorem tmul_none (l : Addr) (items : Array Value) (n : Nat) (dd : Option Addr) (sl : Array (Option Value)) (x : Int) (u : Tok) (c0 : (decide (x < -(2 ^ 63)) || decide (x ≥ 2 ^ 63)) = false) (c1 : (items.isEmpty || x == 1) = false) (c2 : (decide (x ≤ 0) || items.isEmpty) = true) :
    Meets (Builtin.«tuple.__mul__» ⟨[.ref l, .int x u], []⟩) (fun _ R s => s.heap.get? l = some { cls := .type "tuple", dict := dd, data := .seq items n, slots := sl } ∧ R (.ok (.ret (Value.ref s.heap.objs.size))) { s with heap := s.heap.push { cls := Value.type "tuple", data := Data.seq #[] }, toks := s.toks }) :=
  .of_wp fun prog w A R s h => by
    obtain ⟨hp, g, d, tk, os⟩ := s
    obtain ⟨hl, h⟩ := h
    have f1 := AutoSeq1.idx_int
    wp_walk using wpAny_loadPart' hl
    repeat (first
      | (refine wpAny_ite_false (decide_eq_false (by rw [c0]; exact Bool.false_ne_true)) ?_; wp_walk using wpAny_loadPart' hl)
      | (refine wpAny_ite_false (decide_eq_false (by rw [c1]; exact Bool.false_ne_true)) ?_; wp_walk using wpAny_loadPart' hl)
      | (refine wpAny_ite_true (decide_eq_true (by rw [c2])) ?_; wp_walk using wpAny_loadPart' hl))
    exact ⟨_, rfl, h⟩
def rRepG (K : PySem.W.Frag) : R2 := fun x y H Q => ∃ l k xs, x = .ref l ∧ y = .int k ∧ SqT K H l xs ∧ 0 ≤ k ∧ k ≤ 1000 ∧ xs.length ≤ 1000 ∧ ((xs = [] ∨ k = 1) → Q (.ref l) H) ∧ (¬(xs = [] ∨ k = 1) → ∀ p, H p = none → Q (.ref p) (upd H p (.tup (List.replicate k.toNat xs).flatten)))
section
variable {X : Cx}
theorem op_repG : OpR X (binaryOp .Mult) (rRepG X.K) := by
  intro pins s σ H x y v u Q I rx ry h
  obtain ⟨l, k, xs, rfl, rfl, hT, h1, h2, hz, qs, q⟩ := h
  by_cases z2 : xs ≠ [] ∧ 2 ≤ k
  · exact op_repT pins s σ H (.ref l) (.int k) v u Q I rx ry ⟨l, k, xs, rfl, rfl, hT, z2.1, z2.2, h2, hz, q fun e => by rcases e with e | e; exact z2.1 e; omega⟩
  cases rx
  obtain ⟨t, rfl⟩ := ry
  obtain ⟨its, r, ⟨⟨cls, dd, data, sl⟩, ho, hc, n, hd⟩, hs⟩ := I.tuple hT
  simp only at hc hd
  subst hc hd
  have hle : its.length = xs.length := r.length.symm
  have c0 : (decide (k < -(2 ^ 63)) || decide (k ≥ 2 ^ 63)) = false := by
    rw [decide_eq_false (by omega), decide_eq_false (by omega)] <;> rfl
  have hie : its.toArray.isEmpty = true ↔ xs = [] := by
    rw [Array.isEmpty_iff_size_eq_zero, List.size_toArray, hle]
    exact ⟨fun e => List.eq_nil_of_length_eq_zero e, fun e => by rw [e]; rfl⟩
  by_cases zs : xs = [] ∨ k = 1
  · have c1 : (its.toArray.isEmpty || k == 1) = true := by
      rcases zs with e | e
      · rw [hie.mpr e]; rfl
      · rw [e]; simp
    refine wpAny_binaryOp_repeat_ref (T := "tuple") (U := "int") (by decide) ⟨_, ho, rfl⟩ (fun s' => typeIs_int s' k t) noFill_tuple_mul F.fills_int_mul F.slot_int_rmul repeat_tuple F.slot_int_index.lookup
      (call_meets F.slot_int_rmul (typeIs_int s k t) F.entry_int_rmul (F.args_int_rmul_2 _ _) (int_rmul_tuple k t l its.toArray n dd sl)
        ⟨ho, rfl, ⟨_, ho, rfl⟩, call_meets F.slot_tuple_mul ⟨_, ho, rfl⟩ F.entry_tuple_mul (F.args_tuple_mul_2 _ _) (tmul_same l its.toArray n dd sl k t c0 c1) ⟨ho, ?_⟩⟩)
    exact ⟨.ref l, _, I, rfl, qs zs⟩
  · have e0 : k = 0 := by
      rcases Decidable.not_and_iff_or_not.mp z2 with e | e
      · exact absurd (.inl (Decidable.not_not.mp e)) zs
      · have : ¬ k = 1 := fun e => zs (.inr e)
        omega
    subst e0
    have hi : its.toArray.isEmpty = false := by
      cases w : its.toArray.isEmpty with
      | false => rfl
      | true => exact absurd (.inl (hie.mp w)) zs
    have c1 : (its.toArray.isEmpty || (0 : Int) == 1) = false := by rw [hi]; rfl
    have c2 : (decide ((0 : Int) ≤ 0) || its.toArray.isEmpty) = true := rfl
    refine wpAny_binaryOp_repeat_ref (T := "tuple") (U := "int") (by decide) ⟨_, ho, rfl⟩ (fun s' => typeIs_int s' 0 t) noFill_tuple_mul F.fills_int_mul F.slot_int_rmul repeat_tuple F.slot_int_index.lookup
      (call_meets F.slot_int_rmul (typeIs_int s 0 t) F.entry_int_rmul (F.args_int_rmul_2 _ _) (int_rmul_tuple 0 t l its.toArray n dd sl)
        ⟨ho, rfl, ⟨_, ho, rfl⟩, call_meets F.slot_tuple_mul ⟨_, ho, rfl⟩ F.entry_tuple_mul (F.args_tuple_mul_2 _ _) (tmul_none l its.toArray n dd sl 0 t c0 c1 c2) ⟨ho, ?_⟩⟩)
    refine ⟨.ref s.heap.objs.size, _, I.laid (t' := s.toks) (o := .tup []) (fun b ob q => Heap.get?_push_of_some _ q) (Nat.le_refl _) ?_, rfl, q zs _ (I.hok.fresh (Nat.le_refl _))⟩
    exact ⟨Nat.zero_le _, _, .nil, IsTup.new _ _⟩
end
def r3RepT : R3 := fun d e Q => ∃ xs i, d = .tup xs ∧ e = .int i ∧ 0 ≤ i ∧ i ≤ 1000 ∧ xs.length ≤ 1000 ∧ Q (.d (.tup (List.replicate i.toNat xs).flatten))
theorem o3_repT {K : PySem.W.Frag} : Op3 K (rRepG K) r3RepT := by
  rintro G H d1 d2 x y Qr Q sg h1 h2 ⟨xs, i, rfl, rfl, b1, b2, hl, q⟩ k
  have hT : RepD K G (.tup xs) x := by
    rcases h1 with h | ⟨_, _, _, h, _⟩ | ⟨_, _, _, _, h, _⟩
    · exact h
    · cases h
    · cases h
  obtain ⟨a, vs, rfl, ha, ra⟩ := h1.tup sg
  have l1 := ra.length
  refine ⟨a, i, vs, rfl, h2.int, ha, b1, b2, by omega, fun z => ?_, fun z p hp => k _ _ _ _ (.nt hp (ra.rep i.toNat)) q⟩
  have e0 : (List.replicate i.toNat xs).flatten = xs := by
    rcases z with e | e
    · rw [e] at l1
      have : xs = [] := List.eq_nil_of_length_eq_zero l1
      subst this
      simp
    · subst e; simp
  refine k _ _ _ _ (.d hT) ?_
  rw [← e0]
  exact q
/-! ### * of every kind -/
def r3Star : R3 := fun d e Q => r3Mul d e Q ∨ r3MulL d e Q ∨ r3RepT d e Q
def r2Star (K : PySem.W.Frag) : R2 := fun x y H Q => rI CMul (fun i j => .int (i * j)) x y H Q ∨ rRep x y H Q ∨ rRepG K x y H Q
theorem o3_star {K : PySem.W.Frag} : Op3 K (r2Star K) r3Star := Op3.or o3_int (Op3.or o3_mulL o3_repT)
theorem op_star {X : Cx} : OpR X (binaryOp .Mult) (r2Star X.K) := op_mul.or (op_rep.or op_repG)
end L3

/-! L3: the well's list read and written, powers, abs, repr of a bool, {}, written dicts, calls by keyword -/
namespace L3
open PySem PySem.Spec PyProof.Rows L2

/-! ### the well as a list -/
section
variable {X : Cx} {c : C0} {W : WX} {ex : Expr} {te : TDE} {x : Str} {p pos ipos cpos : Pos} {i : Nat} {k : Int} {kk : Nat}
theorem Rel.wl {K : PySem.W.Frag} {σ : St} {G H : Hp} {e : List S} {xs : List D} (r : Rel K c G H σ e) (he : e[i]? = some (.wl xs)) : ∃ a vs, σ[i]? = some (some (.ref a)) ∧ H a = some (.lst vs) ∧ RepDs K G xs vs := by
  obtain ⟨a, vs, h1, h2, h3⟩ := r.sl i _ he
  refine ⟨a, vs, ?_, h2, h3⟩
  cases w : σ[i]? with
  | none => rw [w] at h1; cases h1
  | some x => rw [w] at h1; cases h1; rfl
def dWix (i : Nat) (k : Int) : TDE := fun Xd e Q => ∃ xs d, e[i]? = some (.wl xs) ∧ atI xs k = some d ∧ Q (.d d) e
theorem de_wix (i : Nat) (hN : X.N[i]? = some x := by rfl) (hv : Vis X.env.scope x := by first | exact Or.inl rfl | exact Or.inr (Or.inl rfl) | exact Or.inr (Or.inr rfl)) (hd : (x == ("__debug__" : Str)) = false := by decide)
    (hcd : (x == ("__classdict__" : Str)) = false := by decide) (hs : PlainIx (.Constant (.int k) kk cpos) := by exact fun _ _ => rfl) : DE X c W (.Subscript (.Name x p) (.Constant (.int k) kk cpos) pos) (dWix i k) := by
  refine ⟨PE.imp (pe_ix ix_seq (pe_var hN hv hd hcd) pe_int hs) fun σ H Q ⟨G, e, Qd, Xd, rel, ⟨xs, d, he, ha, h⟩, hQ, hX⟩ => ?_⟩
  obtain ⟨a, vs, h1, h2, h3⟩ := rel.wl he
  obtain ⟨v, hv, rv⟩ := h3.atI ha
  exact ⟨.ref a, h1, .inl ⟨a, vs, k, v, rfl, rfl, .inl (.inl h2), hv, hQ (.d d) e v G H (Step.refl rel) rv h⟩⟩
def dWset (i : Nat) (k : Int) (te : TDE) : TDS := fun Xd De e => te Xd e fun ρ e1 => ∃ d xs j, see e1 ρ = some d ∧ (fz e1 ρ)[i]? = some (.wl xs) ∧ ixN xs.length k = some j ∧ De.nx ((fz e1 ρ).set i (.wl (xs.set j d)))
theorem ds_wset (i : Nat) (ha : DE X c W ex te) (hN : X.N[i]? = some x := by rfl) (hv : Vis X.env.scope x := by first | exact Or.inl rfl | exact Or.inr (Or.inl rfl) | exact Or.inr (Or.inr rfl)) (hd : (x == ("__debug__" : Str)) = false := by decide)
    (hcd : (x == ("__classdict__" : Str)) = false := by decide)
    (has : ∀ v, assign (.Subscript (.Name x p) (.Constant (.int k) kk cpos) ipos) X.env v = (do
      let ov ← holding [v] (eval (.Name x p) X.env)
      let iv ← holding [v, ov] (eval (.Constant (.int k) kk cpos) X.env)
      standAt ipos
      holding [v, ov, iv] (setItem ov iv v)
      release [v, ov, iv] []) := by intro _; rfl)
    (hs : swapsWithSole [.Subscript (.Name x p) (.Constant (.int k) kk cpos) ipos] ex pos.line X.env = pure false := by rfl) (hw : swappedStores [.Subscript (.Name x p) (.Constant (.int k) kk cpos) ipos] ex X.env = pure none := by rfl)
    (h1 : (assignEach [.Subscript (.Name x p) (.Constant (.int k) kk cpos) ipos] X.env).map (·.2) = [assign (.Subscript (.Name x p) (.Constant (.int k) kk cpos) ipos) X.env] := by rfl) :
    DS X c W (.Assign [.Subscript (.Name x p) (.Constant (.int k) kk cpos) ipos] ex pos) (dWset i k te) := by
  refine ⟨PS.imp (ps_asg ha.pe (pg_sub (pe_var hN hv hd hcd) pe_int set_list has) hs hw h1) fun Dx σ H ⟨G, e, De, Xd, rel, h, f⟩ => ?_⟩
  refine ⟨G, e, _, Xd, rel, h, fun ρ e1 v G1 H1 s1 r1 h1 => ?_, f.ke rel⟩
  obtain ⟨d, xs, j, sd, he, hj, h1⟩ := h1
  obtain ⟨G2, s2, rd, _⟩ := Step.asD rel s1 r1 sd
  obtain ⟨a, vs, k1, k2, k3⟩ := s2.rel.wl he
  have st := Step.mutS (s0 := .wl xs) (s1 := .wl (xs.set j d)) rfl rfl rfl ⟨a, vs.set j v, rfl, upd_same, RepDs.set rd j k3⟩ s2.rel he k1
  exact ⟨.ref a, k1, a, vs, k, j, rfl, rfl, k2, by rw [← k3.length]; exact hj, f.nx σ G2 _ _ st.rel s2.sg h1⟩
end

/-! ### powers, abs, repr -/
section
variable {X : Cx} {K : PySem.W.Frag}
def CPowG (i j : Int) : Prop := 0 ≤ j ∧ j ≤ 1000 ∧ i.natAbs < 2 ^ 1000
theorem op_powG : OpR X (binaryOp .Pow) (rI CPowG fun i j => .int (i ^ j.toNat)) := opI fun i j _ _ _ _ _ hc q => by
  have hb : Builtin.Int.intBits i ≤ 1000 := intBits_le hc.2.2
  have h1 : (Builtin.Int.intBits i : Int) * j ≤ 1000 * j := Int.mul_le_mul_of_nonneg_right (by omega) hc.1
  have h2 := hc.2.1
  exact pow_int hc.1 (by omega) q
abbrev r3PowG : R3 := r3I CPowG fun i j => .int (i ^ j.toNat)
def r31Abs : R31 := fun d Q => ∃ i, d = .int i ∧ Q (.d (.int (if i < 0 then -i else i)))
theorem u3_abs : Un3 K (fun x H Q => ∃ i, [x] = [V.int i] ∧ Q (.int (if i < 0 then -i else i)) H) r31Abs := by
  rintro G H d x Qr Q sg h ⟨i, rfl, q⟩ k
  exact ⟨i, by rw [h.int], k _ _ _ _ (.d (.int _)) q⟩
def txtB (b : Bool) : Str := if b then "True" else "False"
theorem call_reprB : CallR X (.builtin "repr") (fun xs H Q => ∃ b, xs = [.bl b] ∧ Q (.str (txtB b)) H) := by
  intro pins s σ H xs us Q I r h
  obtain ⟨b, rfl, q⟩ := h
  obtain ⟨u, rfl, r1⟩ := vals1 r
  cases r1
  exact PySem.P.repr_of_bool ⟨.str (txtB b), H, I.tok _, ⟨_, rfl⟩, q⟩
def r31ReprB : R31 := fun d Q => ∃ b, d = .bl b ∧ Q (.d (.str (txtB b)))
theorem u3_reprB : Un3 K (fun x H Q => ∃ b, [x] = [V.bl b] ∧ Q (.str (txtB b)) H) r31ReprB := by
  rintro G H d x Qr Q sg h ⟨b, rfl, q⟩ k
  exact ⟨b, by rw [h.bl], k _ _ _ _ (.d (.str _)) q⟩
end

/-! ### {} -/
section
variable {X : Cx} {c : C0} {W : WX} {pos : Pos}
def dDict0 : TDE := fun _ e Q => Q (.td [] []) e
theorem de_dict0 : DE X c W (.Dict [] [] pos) dDict0 := by
  refine ⟨PE.imp pe_dnewK fun σ H Q ⟨G, e, Qd, Xd, rel, h, hQ, hX⟩ p hp => ?_⟩
  obtain ⟨s4, r4⟩ := (Out.nd (K := X.K) (ks := []) (vs := []) (xs := []) hp rfl .nil).step rel
  exact hQ _ e _ _ _ s4 r4 h
end

/-! ### dicts of the written part, text keys -/
inductive EntsD (K : PySem.W.Frag) : List DictEntry → List (Str × D) → Prop
  | nil : EntsD K [] []
  | cons {en : DictEntry} {x : Str} {d : D} {es : List DictEntry} {r : List (Str × D)} : (∃ t, en.key = .str x t) → (∃ v, RelV v en.val ∧ ∀ G, RepD K G d v) → EntsD K es r → EntsD K (en :: es) ((x, d) :: r)
structure KD (K : PySem.W.Frag) (w : World) (p : Addr) (kvs : List (Str × D)) : Prop where
  ex : ∃ es n, K.lookup p = some ⟨.type "dict", none, .dict es n, #[]⟩ ∧ PySem.W.KeysLit w.params es.toList ∧ EntsD K es.toList kvs
  low : (p == sysModules) = false
  few : kvs.length ≤ 1000
def getK (kvs : List (Str × D)) (z : Str) : Option D := (kvs.find? fun q => q.1 == z).map (·.2)
theorem ents_find {K : PySem.W.Frag} {z : Str} : ∀ {es : List DictEntry} {kvs : List (Str × D)}, EntsD K es kvs →
    match getK kvs z with
    | some d => ∃ u v, (es.find? fun e => e.key.isStr z).map (·.val) = some u ∧ RelV v u ∧ ∀ G, RepD K G d v
    | none => (es.find? fun e => e.key.isStr z) = none ∧ es.any (·.refKey) = false
  | _, _, .nil => ⟨rfl, rfl⟩
  | en :: es, (x, d) :: r, .cons ⟨t, hk⟩ ⟨v, hv, hd⟩ q => by
    have ih := ents_find (z := z) q
    have e0 : en.key.isStr z = (x == z) := by
      rw [hk]
      rfl
    unfold getK at ih ⊢
    rw [List.find?_cons, List.find?_cons, e0]
    cases w : x == z with
    | true => exact ⟨en.val, v, rfl, hv, hd⟩
    | false =>
      dsimp only
      cases m : (r.find? fun q => q.1 == z).map (·.2) with
      | some d' => rw [m] at ih; exact ih
      | none =>
        rw [m] at ih
        refine ⟨ih.1, ?_⟩
        rw [List.any_cons, ih.2, Bool.or_false]
        unfold DictEntry.refKey
        rw [hk]
theorem KD.find {K : PySem.W.Frag} {w : World} {p : Addr} {kvs : List (Str × D)} (h : KD K w p kvs) (z : Str) : match getK kvs z with
    | some d => ∃ u v, PySem.W.nsIn K p z = some (some u) ∧ RelV v u ∧ ∀ G, RepD K G d v
    | none => PySem.W.nsIn K p z = some none := by
  obtain ⟨es, n, hl, _, he⟩ := h.ex
  have q := ents_find (z := z) he
  unfold PySem.W.nsIn
  rw [hl]
  dsimp only
  cases m : getK kvs z with
  | some d =>
    rw [m] at q
    obtain ⟨u, v, q1, q2⟩ := q
    refine ⟨u, v, ?_, q2⟩
    cases f : es.toList.find? fun e => e.key.isStr z with
    | none => rw [f] at q1; cases q1
    | some e => rw [f] at q1; cases q1; rfl
  | none =>
    rw [m] at q
    rw [q.1, q.2]
    rfl
def rInK (K : PySem.W.Frag) (w : World) : R2 := fun x y H Q => ∃ p z kvs, y = .ref p ∧ x = .str z ∧ KD K w p kvs ∧ Q (.bl (getK kvs z).isSome) H
def rNotInK (K : PySem.W.Frag) (w : World) : R2 := fun x y H Q => ∃ p z kvs, y = .ref p ∧ x = .str z ∧ KD K w p kvs ∧ Q (.bl (!(getK kvs z).isSome)) H
def rIxK (K : PySem.W.Frag) (w : World) : R2 := fun x y H Q => ∃ p z kvs d, x = .ref p ∧ y = .str z ∧ KD K w p kvs ∧ getK kvs z = some d ∧ ∀ v, (∀ G, RepD K G d v) → Q v H
section
variable {X : Cx}
theorem KD.is_some {p : Addr} {z : Str} {kvs : List (Str × D)} (h : KD X.K X.w p kvs) : ∃ r, PySem.W.nsIn X.K p z = some r ∧ r.isSome = (getK kvs z).isSome := by
  have q := h.find z
  cases m : getK kvs z with
  | some d => rw [m] at q; obtain ⟨u, v, q1, _⟩ := q; exact ⟨_, q1, rfl⟩
  | none => rw [m] at q; exact ⟨_, q, rfl⟩
theorem op_inK : OpR X (compareOp .In) (rInK X.K X.w) := by
  intro pins s σ H x y v u Q I rx ry ⟨p, z, kvs, e1, e2, kd, q⟩
  subst e1 e2
  obtain ⟨t, rfl⟩ := rx
  cases ry
  obtain ⟨r, hr, hs⟩ := kd.is_some (z := z)
  obtain ⟨es, n, hl, hk, _⟩ := kd.ex
  refine wpAny_in_of (strKind_is X.prog X.w z t) kd.low (PySem.W.mapOf_K (prog := X.prog) (w := X.w) I.kIn hl hk) ?_
  rw [PySem.W.find_K hl hr, hs]
  exact ⟨.bl _, H, I.tok _, rfl, q⟩
theorem op_notInK : OpR X (compareOp .NotIn) (rNotInK X.K X.w) := by
  intro pins s σ H x y v u Q I rx ry ⟨p, z, kvs, e1, e2, kd, q⟩
  subst e1 e2
  obtain ⟨t, rfl⟩ := rx
  cases ry
  obtain ⟨r, hr, hs⟩ := kd.is_some (z := z)
  obtain ⟨es, n, hl, hk, _⟩ := kd.ex
  refine wpAny_notIn_of (strKind_is X.prog X.w z t) kd.low (PySem.W.mapOf_K (prog := X.prog) (w := X.w) I.kIn hl hk) ?_
  rw [PySem.W.find_K hl hr, hs]
  exact ⟨.bl _, H, I.tok _, rfl, q⟩
theorem ix_K : IxR X (rIxK X.K X.w) := by
  intro value slice pins s σ H x y v u Q I rx ry ⟨p, z, kvs, d, e1, e2, kd, hg, q⟩ hs
  subst e1 e2
  obtain ⟨t, rfl⟩ := ry
  cases rx
  have f := kd.find z
  rw [hg] at f
  obtain ⟨u, v, f1, f2, f3⟩ := f
  obtain ⟨es, n, hl, hk, _⟩ := kd.ex
  have hm := PySem.W.mapOf_K (prog := X.prog) (w := X.w) I.kIn hl hk
  exact tail_any hm.typeIs slot_dict_getitem.lookup (wpAny_getItem_of (strKind_is X.prog X.w z t) hm (PySem.W.find_K hl f1) ⟨v, H, I.tok _, f2, q v f3⟩) hs
end
structure GloK (K : PySem.W.Frag) (w : World) (mg : Str → Option Value) (x : Str) (kvs : List (Str × D)) : Prop where
  ex : ∃ p, mg x = some (.ref p) ∧ KD K w p kvs
section
variable {X : Cx} {c : C0} {W : WX} {a b : Expr} {ta : TDE} {x : Str} {p pos : Pos} {kvs : List (Str × D)}
def dInK (kvs : List (Str × D)) (ta : TDE) : TDE := fun Xd e Q => ta Xd e fun ρ e1 => ∃ z, see e1 ρ = some (.str z) ∧ Q (.d (.bl (getK kvs z).isSome)) e1
def dNotInK (kvs : List (Str × D)) (ta : TDE) : TDE := fun Xd e Q => ta Xd e fun ρ e1 => ∃ z, see e1 ρ = some (.str z) ∧ Q (.d (.bl (!(getK kvs z).isSome))) e1
theorem lift_inK {g : Option D → Bool} {r : R2} {pp : Addr} {σ : St} {H : Hp} {Q : VK} (hr : ∀ z H Q, Q (.bl (g (getK kvs z))) H → r (.str z) (.ref pp) H Q)
    (h : liftE X.K c W (fun Xd e Q => ta Xd e fun ρ e1 => ∃ z, see e1 ρ = some (.str z) ∧ Q (.d (.bl (g (getK kvs z)))) e1) σ H Q) : tOp r (liftE X.K c W ta) (tC (.ref pp)) σ H Q := by
  obtain ⟨G, e, Qd, Xd, rel, h, hQ, hX⟩ := h
  refine ⟨G, e, _, Xd, rel, h, fun ρ1 e1 v1 G1 H1 st1 r1 h1 => ?_, hX⟩
  obtain ⟨z, sd, h1⟩ := h1
  have := (r1.see st1.rel sd).str
  subst this
  exact hr z H1 Q (hQ (.d (.bl _)) e1 _ G1 H1 st1 (RepD.bl _) h1)
theorem de_inK (g : GloK X.K X.w X.mg x kvs) (ha : DE X c W a ta) (hg : Gl X x := by rfl) (hd : (x == ("__debug__" : Str)) = false := by decide) (hm : behindInMarks .In (.Name x p) = false := by first | exact nomark _ | rfl) : DE X c W (.Compare a [.In] [.Name x p] pos) (dInK kvs ta) := by
  obtain ⟨pp, h1, kd⟩ := g.ex
  exact ⟨PE.imp (pe_cmpR op_inK ha.pe (pe_glob hg h1 (show RelV (.ref pp) (.ref pp) from rfl) hd) hm) fun σ H Q h => lift_inK (g := Option.isSome) (fun z H Q q => ⟨pp, z, kvs, rfl, rfl, kd, q⟩) h⟩
theorem de_notInK (g : GloK X.K X.w X.mg x kvs) (ha : DE X c W a ta) (hg : Gl X x := by rfl) (hd : (x == ("__debug__" : Str)) = false := by decide) (hm : behindInMarks .NotIn (.Name x p) = false := by first | exact nomark _ | rfl) : DE X c W (.Compare a [.NotIn] [.Name x p] pos) (dNotInK kvs ta) := by
  obtain ⟨pp, h1, kd⟩ := g.ex
  exact ⟨PE.imp (pe_cmpR op_notInK ha.pe (pe_glob hg h1 (show RelV (.ref pp) (.ref pp) from rfl) hd) hm) fun σ H Q h => lift_inK (g := fun o => !o.isSome) (fun z H Q q => ⟨pp, z, kvs, rfl, rfl, kd, q⟩) h⟩
theorem lift_inKT {g : Option D → Bool} {r : R2} {pp : Addr} {σ : St} {H : Hp} {Q : Bool → Hp → Prop} (hr : ∀ z H Q, Q (.bl (g (getK kvs z))) H → r (.str z) (.ref pp) H Q)
    (h : liftT X.K c W (dB fun Xd e Q => ta Xd e fun ρ e1 => ∃ z, see e1 ρ = some (.str z) ∧ Q (.d (.bl (g (getK kvs z)))) e1) σ H Q) : tTest (tOp r (liftE X.K c W ta) (tC (.ref pp))) σ H Q := by
  obtain ⟨G, e, Qd, Xd, rel, h, hQ, hX⟩ := h
  refine ⟨G, e, _, Xd, rel, h, fun ρ1 e1 v1 G1 H1 st1 r1 h1 => ?_, hX⟩
  obtain ⟨z, sd, b, eb, h1⟩ := h1
  have := (r1.see st1.rel sd).str
  subst this
  have e2 : g (getK kvs z) = b := by simpa [see] using eb
  refine hr z H1 _ ⟨b, by rw [e2], hQ b e1 G1 H1 st1 h1⟩
theorem dt_inK (g : GloK X.K X.w X.mg x kvs) (ha : DE X c W a ta) (hg : Gl X x := by rfl) (hd : (x == ("__debug__" : Str)) = false := by decide) (hm : behindInMarks .In (.Name x p) = false := by first | exact nomark _ | rfl) : DT X c W (.Compare a [.In] [.Name x p] pos) (dB (dInK kvs ta)) := by
  obtain ⟨pp, h1, kd⟩ := g.ex
  exact ⟨PT.imp (pt_cmpR op_inK ha.pe (pe_glob hg h1 (show RelV (.ref pp) (.ref pp) from rfl) hd) hm) fun σ H Q h => lift_inKT (g := Option.isSome) (fun z H Q q => ⟨pp, z, kvs, rfl, rfl, kd, q⟩) h⟩
theorem dt_notInK (g : GloK X.K X.w X.mg x kvs) (ha : DE X c W a ta) (hg : Gl X x := by rfl) (hd : (x == ("__debug__" : Str)) = false := by decide) (hm : behindInMarks .NotIn (.Name x p) = false := by first | exact nomark _ | rfl) : DT X c W (.Compare a [.NotIn] [.Name x p] pos) (dB (dNotInK kvs ta)) := by
  obtain ⟨pp, h1, kd⟩ := g.ex
  exact ⟨PT.imp (pt_cmpR op_notInK ha.pe (pe_glob hg h1 (show RelV (.ref pp) (.ref pp) from rfl) hd) hm) fun σ H Q h => lift_inKT (g := fun o => !o.isSome) (fun z H Q q => ⟨pp, z, kvs, rfl, rfl, kd, q⟩) h⟩
def dIxK (kvs : List (Str × D)) (ta : TDE) : TDE := fun Xd e Q => ta Xd e fun ρ e1 => ∃ z d, see e1 ρ = some (.str z) ∧ getK kvs z = some d ∧ Q (.d d) e1
theorem de_ixK (g : GloK X.K X.w X.mg x kvs) (ha : DE X c W a ta) (hg : Gl X x := by rfl) (hd : (x == ("__debug__" : Str)) = false := by decide) (hs : PlainIx a := by exact fun _ _ => rfl) : DE X c W (.Subscript (.Name x p) a pos) (dIxK kvs ta) := by
  obtain ⟨pp, h1, kd⟩ := g.ex
  refine ⟨PE.imp (pe_ix ix_K (pe_glob hg h1 (show RelV (.ref pp) (.ref pp) from rfl) hd) ha.pe hs) fun σ H Q ⟨G, e, Qd, Xd, rel, h, hQ, hX⟩ => ?_⟩
  refine ⟨G, e, _, Xd, rel, h, fun ρ1 e1 v1 G1 H1 st1 r1 h1 => ?_, hX⟩
  obtain ⟨z, d, sd, hk, h1⟩ := h1
  have := (r1.see st1.rel sd).str
  subst this
  exact ⟨pp, z, kvs, d, rfl, rfl, kd, hk, fun v rv => hQ (.d d) e1 _ G1 H1 st1 (rv G1) h1⟩
end

/-! ### *d in a display, d a written dict: its keys -/
section
variable {X : Cx}
theorem ents_keys {K : PySem.W.Frag} : ∀ {es : List DictEntry} {kvs : List (Str × D)} {us : List Value}, EntsD K es kvs → us.length = es.length → (∀ (i : Nat) (u : Value), us[i]? = some u → ∃ en : DictEntry, es[i]? = some en ∧ u = en.key) → Vals (kvs.map fun q => V.str q.1) us
  | [], _, [], .nil, _, _ => .nil
  | en :: es, _, u :: us, .cons ⟨t, hk⟩ _ q, hl, h => by
    obtain ⟨e', h1, h2⟩ := h 0 u rfl
    cases h1
    refine .cons (show RelV (.str _) u from ⟨t, by rw [h2, hk]⟩) (ents_keys q (by simpa using hl) fun i u' hu => ?_)
    exact h (i + 1) u' (by simpa using hu)
theorem reps_strs {K : PySem.W.Frag} {G : Hp} : ∀ kvs : List (Str × D), RepDs K G (kvs.map fun q => D.str q.1) (kvs.map fun q => V.str q.1)
  | [] => .nil
  | _ :: r => .cons (.str _) (reps_strs r)
theorem star_kd (hc : X.calm = true) {pins : List (Addr × Obj)} {σ : St} {H : Hp} {s : Shared} {p : Addr} {kvs : List (Str × D)} {E : Value → Shared → Prop} {Q : List Value → Shared → Prop} (I : Inv X pins σ H s) (kd : KD X.K X.w p kvs) (hQ : ∀ us s', Inv X pins σ H s' → Vals (kvs.map fun q => V.str q.1) us → Q us s') :
    PySem.W.StarOf (model X.prog X.w) X.A E (.ref p) Q s := by
  obtain ⟨es, n, hl, hk, he⟩ := kd.ex
  have ho := I.kIn _ _ hl
  have hT : s.TypeIs (.ref p) "dict" := ⟨_, ho, rfl⟩
  have hlen : kvs.length = es.size := by
    have : ∀ {es : List DictEntry} {kvs : List (Str × D)}, EntsD X.K es kvs → kvs.length = es.length := fun h => by
      induction h with
      | nil => rfl
      | cons _ _ _ ih => simp [ih]
    rw [this he]; simp
  have z : wpAny (model X.prog X.w) X.A (collect (.ref p)) Q E s := by
    refine PySem.W.kdu_collect (kdl_raw (prog := X.prog) (w := X.w) kd.low ⟨rfl, rfl, rfl⟩ rfl) (I.ok.hd hc) ho (by have := kd.few; have := mil; omega) fun h' tk acc hkp hacc => ?_
    refine hQ acc.toList _ (I.kept (t' := tk) hkp) (ents_keys he (by rw [Array.length_toList, Array.length_toList]; exact hacc.1) fun i u hu => ?_)
    obtain ⟨en, h1, h2⟩ := hacc.2 i u (by rw [← Array.getElem?_toList]; exact hu)
    exact ⟨en, by rw [Array.getElem?_toList]; exact h1, h2⟩
  unfold PySem.W.StarOf notIterableAtAll
  exact wpAny_bind (wpAny_specialOf hT PySem.F.slot_dict_iter.lookup (wpAny_pure ⟨rfl, z⟩))
variable {c : C0} {W : WX} {es : List Expr} {t : TDA} {x : Str} {p pos : Pos} {kvs : List (Str × D)}
def dStarK (kvs : List (Str × D)) (t : TDA) : TDA := fun Xd e Q => t Xd e fun as e2 => Q ((kvs.map fun q => AR.d (.str q.1)) ++ as) e2
theorem da_starK (hc : X.calm = true) (g : GloK X.K X.w X.mg x kvs) (hr : DA X c W es t) (hg : Gl X x := by rfl) (hd : (x == ("__debug__" : Str)) = false := by decide) (hs : starEach (.Starred (.Name x p) pos :: es) X.env = (true, eval (.Name x p) X.env) :: starEach es X.env := by rfl) : DA X c W (.Starred (.Name x p) pos :: es) (dStarK kvs t) := by
  obtain ⟨pp, h1, kd⟩ := g.ex
  refine ⟨⟨fun pos pins s σ H Q I ⟨G, e, Qd, Xd, rel, h, hQ, hX⟩ => ?_⟩⟩
  refine PySem.W.items_star (thn ((pe_glob hg h1 (show RelV (.ref pp) (.ref pp) from rfl) hd).run pins s σ H (fun y H1 => y = .ref pp ∧ H1 = H) I ⟨rfl, rfl⟩) fun v s1 ⟨y, H1, I1, ry, e1, e2⟩ => ?_) hs
  subst e1 e2
  obtain rfl : v = Value.ref pp := ry
  refine star_kd hc I1 kd fun us s2 I2 rv => ?_
  refine thn (hr.pa.run pos pins s2 σ H1 (fun vs H' => ∃ (as : List AR) (e' : List S) (G' : Hp), Step X.K c σ G H1 e G' H' e' ∧ RepAs X.K G' σ as vs ∧ Qd ((kvs.map fun q => AR.d (.str q.1)) ++ as) e') I2 ⟨G, e, _, Xd, rel, h, fun as e' vs G' H' st ra q => ⟨as, e', G', st, ra, q⟩, hX⟩) fun ws s3 ⟨vs, H3, I3, r3, q3⟩ => ?_
  obtain ⟨as, e', G', st, ra, q⟩ := q3
  refine ⟨(kvs.map fun q => V.str q.1) ++ vs, H3, I3, rv.append r3, hQ _ e' _ G' H3 st ?_ q⟩
  have := reps_app ra (reps_strs (K := X.K) (G := G') kvs)
  rw [List.map_map] at this
  exact this
end
end L3

/-! L3: calls by keyword; a promise for the well's def -/
namespace L3
open PySem PySem.Spec PyProof.Rows L2
structure DKw (X : Cx) (c : C0) (W : WX) (kws : List Keyword) (t : TDA) : Prop where
  pk : PK X kws (liftA X.K c W t)
theorem PK.imp {X : Cx} {kws : List Keyword} {t t' : TA} (h : PK X kws t) (i : ∀ σ H Q, t' σ H Q → t σ H Q) : PK X kws t' := ⟨fun pos pins s σ H Q I q => h.run pos pins s σ H Q I (i σ H Q q)⟩
abbrev GK := {α : Type} → List α → List α → List α
/-- how keywords are put among the parameters -/
structure GKok (g : GK) : Prop where
  rel : ∀ {K : PySem.W.Frag} {G : Hp} {ds zs : List D} {vs ws : List V}, RepDs K G ds vs → RepDs K G zs ws → RepDs K G (g ds zs) (g vs ws)
/-- a def of the module, called with n arguments by place and the keywords ks -/
structure CalK (P : Program) (w : World) (K : PySem.W.Frag) (mg : Str → Option Value) (base : Heap) (k : Nat) (x : Str) (m n : Nat) (ks : List Str) (g : GK) (sp : SpD) : Prop where
  ex : ∃ (f : Addr) (fd : FuncData) (ps : List Str), ps.length = m ∧ FnOk P w K mg base (L2.CX P w) k f fd ps (spOf K m sp) ∧ mg x = some (.ref f) ∧ PySem.W.keepIn K (.ref f) = true ∧ KBn K fd ps n ks (fun us ws => g us ws) (fun vs zs => g vs zs)
  gk : GKok g
section
variable {X : Cx} {c : C0} {W : WX} {k j m n : Nat} {ks : List Str} {g : GK} {sp : SpD} {x : Str} {p pos kpos : Pos} {e ex : Expr} {es : List Expr} {kws : List Keyword} {t tk : TDA} {te : TDE} {nm : Option Str}
theorem dk_nil : DKw X c W [] dNil := ⟨PK.imp pk_nil fun σ H Q ⟨G, e, Qd, Xd, rel, h, hQ, hX⟩ => hQ [] e [] G H (Step.refl rel) .nil h⟩
theorem dk_cons (ha : DE X c W ex te) (hr : DKw X c W kws t) : DKw X c W (⟨nm, ex, kpos⟩ :: kws) (dCons te t) := by
  refine ⟨PK.imp (pk_cons ha.pe hr.pk) fun σ H Q ⟨G, e, Qd, Xd, rel, h, hQ, hX⟩ => ?_⟩
  refine ⟨G, e, _, Xd, rel, h, fun ρ1 e1 v1 G1 H1 st1 r1 h1 => ?_, hX⟩
  obtain ⟨d, s1, h1⟩ := h1
  obtain ⟨G1', st1', rd, _⟩ := Step.asD rel st1 r1 s1
  refine ⟨G1', _, _, Xd, st1'.rel, h1, fun as e2 vs G2 H2 st2 r2 h2 => ?_, hX.step rel st1'⟩
  exact hQ _ e2 _ G2 H2 (st1'.trans rel st2) (.cons (show RepA X.K G2 σ (.d d) v1 from RepD.mono st2.sg rd) r2) h2
theorem run_kw {f : Addr} {fd : FuncData} {ps : List Str} {sp : Sp} {CX : CXT} {E : St → XK} {gg : List Value → List Value → List Value} {gV : List V → List V → List V} {pins : List (Addr × Obj)} {σ : St} {H : Hp} {s : Shared} {Q : VK} {us ws : List Value} {vs zs : List V}
    (F : FnOk X.prog X.w X.K X.mg X.base CX k f fd ps sp) (hr : Room k X.A) (hb : KBn X.K fd ps n ks gg gV) (hx : PassesAt CX X σ (E σ))
    (I : Inv X pins σ H s) (r : Vals vs us) (rz : Vals zs ws) (l1 : vs.length = n) (l2 : zs.length = ks.length) (h : sp (gV vs zs) H Q (E σ)) : wpAny (model X.prog X.w) X.A (call (.ref f) us (ks.zip ws)) (EP X pins σ Q) X.xe s := by
  have r2 := hb.rel r rz
  refine wpAny_call (codeAny_mono (F.run X.A X.stack s H ⟨us, ks.zip ws⟩ (gg us ws) (gV vs zs) Q (E σ) hr I.env0 (hb.to s us ws I.kIn (r.length.symm.trans l1) (rz.length.symm.trans l2)) r2 h) fun r s' hq => ?_)
  cases r with
  | error e => exact hx pins H s e s' I hq
  | ok fl =>
    cases fl with
    | ret u => exact I.after hq
    | next => exact False.elim hq
    | brk => exact False.elim hq
    | cont => exact False.elim hq
/-- f(.., k = v, ..) -/
def dKw (m n kn : Nat) (g : GK) (sp : SpD) (t tk : TDA) : TDE := fun Xd e Q => t Xd e fun as e1 => ∃ ds, dats as = some ds ∧ tk Xd e1 fun bs e2 => ∃ zs, dats bs = some zs ∧ ds.length = n ∧ zs.length = kn ∧ (g ds zs).length = m ∧
  sp ((g ds zs).map S.d) (fun d _ => Q (.d d) e2) (fun x _ => Xd x e2)
theorem de_k0 (C : CalK X.prog X.w X.K X.mg X.base k x m 0 ks g sp) (hr : Room j X.A) (hk : k ≤ j) (tk0 : Takes X W) (ha : DKw X c W kws tk) (hg : Gl X x := by rfl) (hdb : (x == ("__debug__" : Str)) = false := by decide)
    (hall : (backToKw pos (keywordEach kws X.env)).all (·.1.isSome) = true := by rfl) (hks : (backToKw pos (keywordEach kws X.env)).filterMap (·.1) = ks := by rfl)
    (hpl : ((backTo pos (starEach [] X.env)).any (·.1) || (backToKw pos (keywordEach kws X.env)).any (·.1.isNone)) = false := by rfl) : DE X c W (.Call (.Name x p) [] kws pos) (dKw m 0 ks.length g sp dNil tk) := by
  obtain ⟨f, fd, ps, rfl, F, hm, hkp, hb⟩ := C.ex
  refine ⟨⟨fun pins s σ H Q I ⟨G, e0, Qd, Xd, rel, h, hQ, hX⟩ => ?_⟩⟩
  obtain ⟨ds, hds, h⟩ := h
  cases hds
  refine wpAny_Call_Name_kw (ld_glob I hg hm ?_ hdb)
  refine PySem.W.callWith_KW0 (h₀ := X.base) I.ok.mod.kin hkp hall ?_ hpl
  refine thn (ha.pk.run pos pins s σ H (fun zs H2 => zs.length = ks.length ∧ spOf X.K ps.length sp (g [] zs) H2 Q (WE W σ)) I ⟨G, e0, _, Xd, rel, h, fun bs e2 zs G1 H1 s1 r1 h1 => ?_, hX⟩) fun ws s2 ⟨zs, H2, I2, rz, l2, q2⟩ => ⟨I2.kIn, ?_⟩
  · obtain ⟨zd, hz, _, hl, hm2, h1⟩ := h1
    have rd := dats_rep r1 hz
    exact ⟨by rw [← rd.length]; exact hl, call_data s1.rel (C.gk.rel .nil rd) hm2 h1 (fun ρ e' v G' H' st rr q => hQ ρ e' v G' H' (s1.trans rel st) (rr.back s1) q) (hX.step rel s1)⟩
  · rw [hks]
    exact run_kw (us := []) (vs := []) (E := WE W) F (hr.mono hk) hb (passAt tk0 σ) I2 .nil rz rfl l2 q2
end
end L3

/-! L3: the promises of the well's two defs -/
namespace L3
open PySem PySem.Spec PyProof.Rows L2
section
variable {K : PySem.W.Frag} {G H : Hp} {vs : List V} {s s' : S} {r : List S}
theorem ArgRel.head (ar : ArgRel K G H vs (s :: r)) (ho : s'.own = s.own) (hf : s'.fixd = s.fixd) (hs : SlotR K G H s' vs[0]?) : ArgRel K G H vs (s' :: r) where
  len := ar.len
  sl := fun i t h => by
    cases i with
    | zero => simp at h; subst h; exact hs
    | succ i => exact ar.sl (i + 1) t h
  gh := ar.gh
  own := fun i t a h o e => by
    cases i with
    | zero => simp at h; subst h; exact ar.own 0 s a rfl (by rw [← ho]; exact o) e
    | succ i => exact ar.own (i + 1) t a h o e
  inj := fun i j t u a h1 h2 o1 o2 e1 e2 => by
    have f : ∀ (i : Nat) (t : S), (s' :: r)[i]? = some t → t.own = true → ∃ t', (s :: r)[i]? = some t' ∧ t'.own = true := fun i t h o => by
      cases i with
      | zero => simp at h; subst h; exact ⟨s, rfl, by rw [← ho]; exact o⟩
      | succ i => exact ⟨t, h, o⟩
    obtain ⟨t', q1, q2⟩ := f i t h1 o1
    obtain ⟨u', p1, p2⟩ := f j u h2 o2
    exact ar.inj i j t' u' a q1 p1 q2 p2 e1 e2
  fx := fun i t h o => by
    cases i with
    | zero => simp at h; subst h; rw [hf]; exact ar.fx 0 s rfl (by rw [← ho]; exact o)
    | succ i => exact ar.fx (i + 1) t h o
theorem CStep.head {G' H' : Hp} {t t' : S} {r' : List S} (cs : CStep K G H vs (s' :: r) G' H' (t' :: r')) (ho : s'.own = s.own) (hf : s'.fixd = s.fixd) (hfx : s.fixd = true) (ho2 : t.own = t'.own) (hf2 : t.fixd = t'.fixd) (hs : SlotR K G' H' t vs[0]?) : CStep K G H vs (s :: r) G' H' (t :: r') where
  ar := cs.ar.head ho2 hf2 hs
  sg := cs.sg
  fr := fun a o h n => cs.fr a o h fun ⟨i, u, h1, h2, h3⟩ => n (by
    cases i with
    | zero => simp at h1; subst h1; exact ⟨0, s, rfl, by rw [← ho]; exact h2, h3⟩
    | succ i => exact ⟨i + 1, u, h1, h2, h3⟩)
  gn := cs.gn
  th := cs.th
  fx := fun i u h o => by
    cases i with
    | zero =>
      simp at h; subst h
      obtain ⟨w, h1, h2⟩ := cs.fx 0 s' rfl (by rw [hf]; exact o)
      simp at h1; subst h1
      exact ⟨t, rfl, by rw [hf2]; exact h2⟩
    | succ i =>
      obtain ⟨w, h1, h2⟩ := cs.fx (i + 1) u h o
      exact ⟨w, by simpa using h1, h2⟩
  dt := fun i u h o => by
    cases i with
    | zero => simp at h; subst h; rw [hfx] at o; cases o
    | succ i => simpa using cs.dt (i + 1) u h o
end
def wl3 (cs : List Int) (t r : Int) : S := .wl [.lst (cs.map D.int), .int t, .int r]
/-- what the body of the def that draws does -/
def spDraw1 : SpD := fun as Qd Xd => ∃ (cs : List Int) (t r many : Int), as = [wl3 cs t r, .d (.int many)] ∧ cs.length ≤ 100 ∧ 0 ≤ t ∧ t < 2 ^ 40 ∧ 0 ≤ r ∧ 1 ≤ many ∧ many ≤ 1000000 ∧
  ∀ x t' r' : Int, 0 ≤ x → x < many → 0 ≤ t' → t' ≤ t + 1 → 0 ≤ r' → Qd (.int x) [wl3 cs t' r', .d (.int many)]
def spDraw : SpD := fun as Qd Xd => ∃ (n : Nat) (many : Int), as = [.well n, .d (.int many)] ∧ n < 2 ^ 40 ∧ 1 ≤ many ∧ many ≤ 1000000 ∧
  ∀ x : Int, 0 ≤ x → x < many → Qd (.int x) [.well (n + 1), .d (.int many)]
theorem reps_ints {K : PySem.W.Frag} {G : Hp} : ∀ cs : List Int, RepDs K G (cs.map D.int) (cs.map V.int)
  | [] => .nil
  | _ :: r => .cons (.int _) (reps_ints r)
theorem reps_ints_inv {K : PySem.W.Frag} {G : Hp} : ∀ {cs : List Int} {vs : List V}, RepDs K G (cs.map D.int) vs → vs = cs.map V.int
  | [], _, h => by cases h; rfl
  | _ :: r, _, h => by
    cases h with
    | cons a b => cases a; rw [reps_ints_inv b]; rfl
theorem draw_sp {K : PySem.W.Frag} {vs : List V} {H : Hp} {Q : VK} {E : XK} (h : spOf K 2 spDraw vs H Q E) : spOf K 2 spDraw1 vs H Q E := by
  obtain ⟨hl, G, as, Qd, Xd, ar, ⟨n, many, rfl, hn, h0, hm, hq⟩, hQ, hX⟩ := h
  obtain ⟨a, ha, c, cs, t, r, h1, h2, h3, h4, h5, h6⟩ := ar.sl 0 _ rfl
  have a1 : ArgRel K G H vs [wl3 cs t r, .d (.int many)] := ar.head rfl rfl ⟨a, _, ha, h1, .cons (.lst h2 (reps_ints cs)) (.cons (.int t) (.cons (.int r) .nil))⟩
  refine ⟨hl, G, _, fun d as' => ∃ x t' r' : Int, d = .int x ∧ as' = [wl3 cs t' r', .d (.int many)] ∧ 0 ≤ x ∧ x < many ∧ 0 ≤ t' ∧ t' ≤ t + 1 ∧ 0 ≤ r', fun x as' => False, a1,
    ⟨cs, t, r, many, rfl, h3, h4, by omega, h6, h0, hm, fun x t' r' k1 k2 k3 k4 k5 => ⟨x, t', r', rfl, rfl, k1, k2, k3, k4, k5⟩⟩, ?_, fun _ _ _ _ _ _ _ _ z => z.elim⟩
  rintro d as' v G' H' st rv ⟨x, t', r', rfl, rfl, k1, k2, k3, k4, k5⟩
  have hsl := st.ar.sl 0 _ rfl
  obtain ⟨a', ws, e1, e2, e3⟩ := hsl
  refine hQ (.int x) _ v G' H' (st.head (s := .well n) (t := .well (n + 1)) rfl rfl rfl rfl rfl ⟨a', e1, ?_⟩) rv (hq x k1 k2)
  cases e3 with
  | cons f1 f2 =>
    cases f1 with
    | @lst c' cvs _ g1 g2 =>
      cases f2 with
      | cons f3 f4 =>
        cases f3
        cases f4 with
        | cons f5 f6 =>
          cases f5
          cases f6
          rw [reps_ints_inv g2] at g1
          exact ⟨c', cs, t', r', e2, g1, h3, k3, by omega, k5⟩
end L3

/-! L3: a def that gives a new list of its own; the well made -/
namespace L3
open PySem PySem.Spec PyProof.Rows L2
abbrev SpL := List S → (List D → List S → Prop) → (XV → List S → Prop) → Prop
def spOfL (K : PySem.W.Frag) (n : Nat) (sp : SpL) : Sp := fun vs H Q E => vs.length = n ∧ ∃ (G : Hp) (as : List S) (Qd : List D → List S → Prop) (Xd : XV → List S → Prop), ArgRel K G H vs as ∧ sp as Qd Xd ∧
  (∀ (xs : List D) (as' : List S) (a : Addr) (ws : List V) (G' H' : Hp), CStep K G H vs as G' H' as' → H' a = some (.lst ws) → RepDs K G' xs ws → G' a = none → H a = none → Qd xs as' → Q (.ref a) H') ∧
  (∀ (x : XV) (as' : List S) (cl : Value) (dd : Option Addr) (G' H' : Hp), CStep K G H vs as G' H' as' → RepX K H G' H' x cl dd → Xd x as' → E cl dd H')
section
variable {P : Program} {w : World} {K : PySem.W.Frag} {mg : Str → Option Value} {base : Heap}
/-- def f(..): return [..] -/
theorem fn_retL {x qual : Str} {st : Stmt} {f : Addr} {fd : FuncData} {N ps : List Str} {k : Nat} {sp : SpL} {t : TDE} {ex : Expr} {pos : Pos} (F : Fun K x qual st f fd) (SC : FnScope N ps (defScope st)) (hb : defBody st = [.Return (some ex) pos])
    (hbody : ∀ (cdv : Value) (A : Around) (outer : List Env) (s : Shared) (H : Hp) (E : XK) (c : C0), Room k (A.deeper (envOfC qual (defScope st) s.heap.objs.size f cdv)) →
      Takes (cxOf (L2.CX P w) P w K mg base N qual (defScope st) f cdv A outer s H E) (WE0 E) → PassesOwn (model P w) (cxOf (L2.CX P w) P w K mg base N qual (defScope st) f cdv A outer s H E).A (cxOf (L2.CX P w) P w K mg base N qual (defScope st) f cdv A outer s H E).env (cxOf (L2.CX P w) P w K mg base N qual (defScope st) f cdv A outer s H E).xe →
      DE (cxOf (L2.CX P w) P w K mg base N qual (defScope st) f cdv A outer s H E) c (WE0 E) ex t)
    (hsp : ∀ (as : List S) (Qd : List D → List S → Prop) (Xd : XV → List S → Prop), as.length = ps.length → sp as Qd Xd → t (fun x e => Xd x (merge as e)) (startE N.length as) (fun ρ e => ∃ xs, ρ = .tl xs ∧ Qd xs (merge as e))) :
    FnOk P w K mg base (L2.CX P w) (k + 1) f fd ps (spOfL K ps.length sp) := by
  refine F.okX SC (fun vs H Q E h => h.1) (fun cdv A outer s H vs Q E hr h => ?_)
  obtain ⟨hlen, G, as, Qd, Xd, ar, hs, hQ, hE⟩ := h
  have tk : Takes (cxOf (L2.CX P w) P w K mg base N qual (defScope st) f cdv A outer s H E) (WE0 E) := takes_of rfl rfl rfl rfl
  have hpl : ps.length ≤ N.length := by have := congrArg List.length SC.pre; rw [List.length_take] at this; omega
  have hN : vs.length ≤ N.length := by omega
  have r0 := ar.begin_ (N := N) hN
  rw [hb]
  refine ⟨_, pss_one (ps_ret (hbody cdv A outer s H E ⟨H, G, adOf vs as, N.length, []⟩ hr tk (passes_of rfl)).pe), ?_⟩
  refine ⟨G, startE N.length as, _, _, r0, hsp as Qd Xd (by rw [← ar.len]; exact hlen) hs, ?_, ?_⟩
  · rintro ρ e' v G' H' st rr ⟨xs, rfl, q⟩
    obtain ⟨a, ws, rfl, k1, k2, k3, k4, k5⟩ := rr
    exact hQ xs _ a ws G' H' (ar.fin hN st.rel) k1 k2 k3 k4 q
  · exact fun x' e' cl dd G' H' stp rx q => hE x' _ cl dd G' H' (ar.fin hN stp.rel) rx q
structure CalL (P : Program) (w : World) (K : PySem.W.Frag) (mg : Str → Option Value) (base : Heap) (k : Nat) (x : Str) (n : Nat) (sp : SpL) : Prop where
  ex : ∃ (f : Addr) (fd : FuncData) (ps : List Str), ps.length = n ∧ FnOk P w K mg base (L2.CX P w) k f fd ps (spOfL K n sp) ∧ mg x = some (.ref f) ∧ PySem.W.keepIn K (.ref f) = true ∧ Binds K fd ps []
end
section
variable {X : Cx} {c : C0} {W : WX} {k j n : Nat} {sp : SpL} {x : Str} {p pos : Pos} {e : Expr} {es : List Expr} {t : TDA}
/-- f(data ..), a new list -/
def dCallL (n : Nat) (sp : SpL) (t : TDA) : TDE := fun Xd e Q => t Xd e fun as e1 => ∃ ds, dats as = some ds ∧ ds.length = n ∧ sp (ds.map S.d) (fun xs _ => Q (.tl xs) e1) (fun x _ => Xd x e1)
/-- f(data ..), the well -/
def dCallW (n m : Nat) (sp : SpL) (t : TDA) : TDE := fun Xd e Q => t Xd e fun as e1 => ∃ ds, dats as = some ds ∧ ds.length = n ∧ sp (ds.map S.d) (fun xs _ => (∃ (cs : List Int) (t r : Int), xs = [.lst (cs.map D.int), .int t, .int r] ∧ cs.length ≤ 100 ∧ 0 ≤ t ∧ t ≤ m ∧ 0 ≤ r) ∧ Q (.tw m) e1) (fun x _ => Xd x e1)
theorem callL_data {K : PySem.W.Frag} {n : Nat} {σ : St} {G H : Hp} {e1 : List S} {ds : List D} {vs : List V} {Xd : XD} {Q : VK} {Qd : List D → List S → Prop} (rel : Rel K c G H σ e1) (rd : RepDs K G ds vs) (hl : ds.length = n) (h : sp (ds.map S.d) Qd (fun x _ => Xd x e1))
    (hQ : ∀ (xs : List D) (as' : List S) (a : Addr) (ws : List V) (G' H' : Hp), Step K c σ G H e1 G' H' e1 → H' a = some (.lst ws) → RepDs K G' xs ws → G' a = none → H a = none → Qd xs as' → Q (.ref a) H') (hX : KE K c W Xd σ G H e1) : spOfL K n sp vs H Q (WE W σ) := by
  have nod : ∀ (i : Nat) (s : S), (ds.map S.d)[i]? = some s → s.own = true → False := fun i s q o => by
    rw [(slots_rep rd i s q).1] at o; cases o
  have st : ∀ {G' H' : Hp} {as' : List S}, CStep K G H vs (ds.map S.d) G' H' as' → Step K c σ G H e1 G' H' e1 := fun {G' H' as'} cs =>
    Step.ext rel (fun a o h => cs.fr a o h fun ⟨i, s, q, o, _⟩ => nod i s q o) cs.sg cs.ar.gh cs.gn
  refine ⟨by rw [← rd.length]; exact hl, G, ds.map S.d, _, _, ⟨by rw [List.length_map]; exact rd.length.symm, fun i s q => (slots_rep rd i s q).2.2, rel.gh, fun i s a q o => (nod i s q o).elim, fun i j s t a q _ o => (nod i s q o).elim, fun i s q o => (nod i s q o).elim⟩, h, ?_, ?_⟩
  · exact fun xs as' a ws G' H' cs k1 k2 k3 k4 q => hQ xs as' a ws G' H' (st cs) k1 k2 k3 k4 q
  · exact fun x as' cl dd G' H' cs rx q => hX x e1 cl dd G' H' (st cs) rx q
theorem de_cL (C : CalL X.prog X.w X.K X.mg X.base k x n sp) (hr : Room j X.A) (hk : k ≤ j) (tk : Takes X W) (ha : DA X c W (e :: es) t) (hg : Gl X x := by rfl) (hdb : (x == ("__debug__" : Str)) = false := by decide) (he : starEach (e :: es) X.env = (false, eval e X.env) :: starEach es X.env := by rfl)
    (hpl : (backTo pos (starEach es X.env)).any (·.1) = false := by rfl) : DE X c W (.Call (.Name x p) (e :: es) [] pos) (dCallL n sp t) := by
  obtain ⟨f, fd, ps, rfl, F, hm, hkp, hb⟩ := C.ex
  refine ⟨PE.imp (pe_callSD F (hr.mono hk) hg hm hkp hb .nil (fun σ => passAt tk σ) ha.pa hdb he hpl) fun σ H Q ⟨G, e0, Qd, Xd, rel, h, hQ, hX⟩ => ?_⟩
  refine ⟨G, e0, _, Xd, rel, h, fun as e1 vs G1 H1 s1 r1 h1 => ?_, hX⟩
  obtain ⟨ds, hds, hl, h1⟩ := h1
  show spOfL _ _ _ (vs ++ []) _ _ _
  rw [List.append_nil]
  refine callL_data s1.rel (dats_rep r1 hds) hl h1 (fun xs as' a ws G' H' st k1 k2 k3 k4 q => ?_) (hX.step rel s1)
  refine hQ (.tl xs) e1 _ G' H' (s1.trans rel st) (RepR.back s1 (ρ := .tl xs) ⟨a, ws, rfl, k1, k2, k3, k4, fun z => ?_⟩) q
  exact s1.rel.freshO k4 (st.ow a z)
theorem de_cW (m : Nat) (C : CalL X.prog X.w X.K X.mg X.base k x n sp) (hr : Room j X.A) (hk : k ≤ j) (tk : Takes X W) (ha : DA X c W (e :: es) t) (hg : Gl X x := by rfl) (hdb : (x == ("__debug__" : Str)) = false := by decide) (he : starEach (e :: es) X.env = (false, eval e X.env) :: starEach es X.env := by rfl)
    (hpl : (backTo pos (starEach es X.env)).any (·.1) = false := by rfl) : DE X c W (.Call (.Name x p) (e :: es) [] pos) (dCallW n m sp t) := by
  obtain ⟨f, fd, ps, rfl, F, hm, hkp, hb⟩ := C.ex
  refine ⟨PE.imp (pe_callSD F (hr.mono hk) hg hm hkp hb .nil (fun σ => passAt tk σ) ha.pa hdb he hpl) fun σ H Q ⟨G, e0, Qd, Xd, rel, h, hQ, hX⟩ => ?_⟩
  refine ⟨G, e0, _, Xd, rel, h, fun as e1 vs G1 H1 s1 r1 h1 => ?_, hX⟩
  obtain ⟨ds, hds, hl, h1⟩ := h1
  show spOfL _ _ _ (vs ++ []) _ _ _
  rw [List.append_nil]
  refine callL_data s1.rel (dats_rep r1 hds) hl h1 (fun xs as' a ws G' H' st k1 k2 k3 k4 q => ?_) (hX.step rel s1)
  obtain ⟨⟨cs, t', r', rfl, b1, b2, b3, b4⟩, q⟩ := q
  have wa : WellAt X.K G' H' a m := by
    cases k2 with
    | cons f1 f2 =>
      cases f1 with
      | @lst c' cvs _ g1 g2 =>
        cases f2 with
        | cons f3 f4 =>
          cases f3
          cases f4 with
          | cons f5 f6 =>
            cases f5
            cases f6
            rw [reps_ints_inv g2] at g1
            exact ⟨c', cs, t', r', k1, g1, b1, b2, b3, b4⟩
  refine hQ (.tw m) e1 _ G' H' (s1.trans rel st) (RepR.back s1 (ρ := .tw m) ⟨a, rfl, wa, k3, k4, fun z => ?_⟩) q
  exact s1.rel.freshO k4 (st.ow a z)
end
def spWell (m : Nat) : SpL := fun as Qd Xd => ∃ ns : List Int, as = [.d (scrD (ns.map D.int))] ∧ ns.length ≤ 1000000 ∧ Qd [.lst ((ns.take m).map D.int), .int 0, .int 0] as
end L3

/-! L3: the terms stepped from the head -/
namespace L3
open PySem PySem.Spec PyProof.Rows L2
section
variable {Xd : XD} {De : EndsD} {e : List S} {Q : R → List S → Prop} {Qb : Bool → List S → Prop} {Qa : List AR → List S → Prop} {Qo : Option Int → List S → Prop} {t u : TDS} {tc tA tB' : TDT} {te ta tb tcc : TDE} {tas : TDA} {i j : Nat} {x y : D} {xs ys : List D} {b : Bool} {r3 r3' : R3} {r31 : R31} {s : S} {Qr : R → Prop}
theorem x_seq (h : t Xd { De with nx := u Xd De } e) : dSeq t u Xd De e := h
theorem x_next (h : De.nx e) : dNext Xd De e := h
theorem x_cont (h : De.ct e) : dCont Xd De e := h
theorem x_break (h : De.bk e) : dBreak Xd De e := h
theorem x_drop (h : te Xd e fun _ e1 => De.nx e1) : dDrop te Xd De e := h
theorem x_ret (h : te Xd e fun ρ e1 => ∃ d, see e1 ρ = some d ∧ De.rt d (fz e1 ρ)) : dRet te Xd De e := h
theorem x_ifs (h : tc Xd e fun b e1 => if b = true then t Xd De e1 else u Xd De e1) : dIfS tc t u Xd De e := h
theorem x_set (h : te Xd e fun ρ e1 => free e1 i ∧ ∃ e2, asg e1 i ρ = some e2 ∧ De.nx e2) : dSet i te Xd De e := h
theorem x_asg {t : TGD} (h : te Xd e fun ρ e1 => ∃ d, see e1 ρ = some d ∧ t d (fz e1 ρ) De.nx) : dAsg te t Xd De e := h
theorem x_par (h : ta Xd e fun ρ1 e1 => tb Xd e1 fun ρ2 e2 => (∀ k, ρ1 ≠ .sl k) ∧ (∀ k, ρ2 ≠ .sl k) ∧ free e2 i ∧ free e2 j ∧ ∃ e3 e4, asg e2 i ρ1 = some e3 ∧ asg e3 j ρ2 = some e4 ∧ De.nx e4) : dPar i j ta tb Xd De e := h
theorem x_wset {k : Int} (h : te Xd e fun ρ e1 => ∃ d xs j, see e1 ρ = some d ∧ (fz e1 ρ)[i]? = some (.wl xs) ∧ ixN xs.length k = some j ∧ De.nx ((fz e1 ρ).set i (.wl (xs.set j d)))) : dWset i k te Xd De e := h
theorem x_free (h : e[i]? = some s) (hf : s.fixd = false) : free e i := ⟨s, h, hf⟩
/-! tests -/
theorem x_b (h : te Xd e fun ρ e1 => ∃ b, see e1 ρ = some (.bl b) ∧ Qb b e1) : dB te Xd e Qb := h
theorem x_not (h : tc Xd e fun b e1 => Qb (!b) e1) : dNot tc Xd e Qb := h
theorem x_and (h : tA Xd e fun b e1 => if b = true then tB' Xd e1 Qb else Qb false e1) : dAnd tA tB' Xd e Qb := h
theorem x_or (h : tA Xd e fun b e1 => if b = true then Qb true e1 else tB' Xd e1 Qb) : dOr tA tB' Xd e Qb := h
theorem x_andV (h : ta Xd e fun ρ e1 => ∃ b, see e1 ρ = some (.bl b) ∧ if b = true then tb Xd e1 Q else Q (.d (.bl false)) e1) : dAndV ta tb Xd e Q := h
theorem x_orV (h : ta Xd e fun ρ e1 => ∃ b, see e1 ρ = some (.bl b) ∧ if b = true then Q (.d (.bl true)) e1 else tb Xd e1 Q) : dOrV ta tb Xd e Q := h
theorem x_notV (h : tc Xd e fun b e1 => Q (.d (.bl (!b))) e1) : dNotV tc Xd e Q := h
theorem x_if (h : tc Xd e fun b e1 => if b = true then ta Xd e1 Q else tb Xd e1 Q) : dIf tc ta tb Xd e Q := h
theorem x_yes (h : Qb true e) : dYes Xd e Qb := h
/-! values -/
theorem x_c (h : Q (.d x) e) : dC x Xd e Q := h
theorem x_var (h0 : e[i]? = some s) (h : match (some s : Option S) with
  | some (.d x) => Q (.d x) e
  | some .no => False
  | none => False
  | some _ => Q (.sl i) e) : dVar i Xd e Q := by unfold dVar; rw [h0]; exact h
theorem x_bin (h : ta Xd e fun ρ1 e1 => tb Xd e1 fun ρ2 e2 => ∃ d1 d2, see e2 ρ1 = some d1 ∧ see e2 ρ2 = some d2 ∧ r3 d1 d2 fun ρ => Q ρ e2) : dBin r3 ta tb Xd e Q := h
theorem x_un (h : ta Xd e fun ρ1 e1 => ∃ d1, see e1 ρ1 = some d1 ∧ r31 d1 fun ρ => Q ρ e1) : dUn r31 ta Xd e Q := h
theorem x_chain (h : ta Xd e fun ρ1 e1 => tb Xd e1 fun ρ2 e2 => ∃ d1 d2, see e2 ρ1 = some d1 ∧ see e2 ρ2 = some d2 ∧ r3 d1 d2 fun ρ => ∃ k, ρ = .d (.bl k) ∧
  if k = true then tcc Xd e2 fun ρ3 e3 => ∃ d2 d3, see e3 ρ2 = some d2 ∧ see e3 ρ3 = some d3 ∧ r3' d2 d3 fun ρ' => Q ρ' e3 else Q (.d (.bl false)) e2) : dChain r3 r3' ta tb tcc Xd e Q := h
theorem x_nil (h : Qa [] e) : dNil Xd e Qa := h
theorem x_cons (h : te Xd e fun ρ e1 => ∃ d, see e1 ρ = some d ∧ tas Xd (fz e1 ρ) fun as e2 => Qa (.d d :: as) e2) : dCons te tas Xd e Qa := h
theorem x_ref (h0 : e[i]? = some s) (h1 : s.fixd = true) (h : tas Xd e fun as e2 => Qa (.rf i :: as) e2) : dRef i tas Xd e Qa := ⟨⟨s, h0, h1⟩, h⟩
theorem x_star (h : te Xd e fun ρ e1 => ∃ xs, (see e1 ρ = some (.lst xs) ∨ see e1 ρ = some (.tup xs)) ∧ tas Xd (fz e1 ρ) fun as e2 => Qa (xs.map AR.d ++ as) e2) : dStar te tas Xd e Qa := h
theorem x_starK {kvs : List (Str × D)} (h : tas Xd e fun as e2 => Qa ((kvs.map fun q => AR.d (.str q.1)) ++ as) e2) : dStarK kvs tas Xd e Qa := h
theorem x_tup (h : tas Xd e fun as e1 => ∃ ds, dats as = some ds ∧ ds.length ≤ 1000000 ∧ Q (.d (.tup ds)) e1) : dTup tas Xd e Q := h
theorem x_lst (h : tas Xd e fun as e1 => ∃ ds, dats as = some ds ∧ ds.length ≤ 1000000 ∧ Q (.tl ds) e1) : dLst tas Xd e Q := h
theorem x_dict0 (h : Q (.td [] []) e) : dDict0 Xd e Q := h
theorem x_call {n : Nat} {sp : SpD} {dds : List D} (h : tas Xd e fun as e1 => ∃ ds, dats as = some ds ∧ (ds ++ dds).length = n ∧ sp ((ds ++ dds).map S.d) (fun d _ => Q (.d d) e1) (fun x _ => Xd x e1)) : dCall n sp dds tas Xd e Q := h
theorem x_callR {n : Nat} {sp : SpD} (h : tas Xd e fun as e1 => ∃ i r ds s, as = .rf i :: r ∧ dats r = some ds ∧ ds.length + 1 = n ∧ e1[i]? = some s ∧ s.fixd = true ∧
  sp (s :: ds.map S.d) (fun d as' => ∃ s' r', as' = s' :: r' ∧ Q (.d d) (e1.set i s')) (fun x as' => ∃ s' r', as' = s' :: r' ∧ Xd x (e1.set i s'))) : dCallR n sp tas Xd e Q := h
theorem x_app (h0 : e[i]? = some (.ol ys)) (h : te Xd e fun ρ e1 => ∃ d xs, see e1 ρ = some d ∧ (fz e1 ρ)[i]? = some (.ol xs) ∧ xs.length < 1000000 ∧ Q (.d .non) ((fz e1 ρ).set i (.ol (xs ++ [d])))) : dApp i te Xd e Q := ⟨⟨ys, h0⟩, h⟩
theorem x_ext (h0 : e[i]? = some (.ol ys)) (h : te Xd e fun ρ e1 => ∃ ds xs, see e1 ρ = some (.lst ds) ∧ (fz e1 ρ)[i]? = some (.ol xs) ∧ xs.length + ds.length ≤ 1000000 ∧ Q (.d .non) ((fz e1 ρ).set i (.ol (xs ++ ds)))) : dExt i te Xd e Q := ⟨⟨ys, h0⟩, h⟩
theorem x_pop {xs ys : List D} (h0 : e[i]? = some (.ol ys)) (h1 : ys = xs ++ [x]) (h : Q (.d x) (e.set i (.ol xs))) : dPop i Xd e Q := ⟨ys, x, h0, by subst h1; simp, by subst h1; simpa using h⟩
theorem x_sl {tl th : TDO} (h : te Xd e fun ρ e1 => tl Xd e1 fun lo e2 => th Xd e2 fun hi e3 => ∃ d, see e3 ρ = some d ∧ ((∃ xs, d = .lst xs ∧ Q (.tl (cutD xs lo hi)) e3) ∨ ∃ xs, d = .tup xs ∧ Q (.d (.tup (cutD xs lo hi))) e3)) : dSl te tl th Xd e Q := h
theorem x_slS {tl th : TDO} (h : te Xd e fun ρ e1 => tl Xd e1 fun lo e2 => th Xd e2 fun hi e3 => ∃ xs, see e3 ρ = some (scrD xs) ∧ Q (.tl (cutD xs lo hi)) e3) : dSlS te tl th Xd e Q := h
theorem x_part (h : te Xd e fun ρ e1 => ∃ i, see e1 ρ = some (.int i) ∧ Qo (some i) e1) : dPart te Xd e Qo := h
theorem x_nopart (h : Qo none e) : dNoPart Xd e Qo := h
theorem x_wix {k : Int} (h0 : e[i]? = some (.wl xs)) (h1 : atI xs k = some x) (h : Q (.d x) e) : dWix i k Xd e Q := ⟨xs, x, h0, h1, h⟩
theorem x_ixK {kvs : List (Str × D)} (h : te Xd e fun ρ e1 => ∃ z d, see e1 ρ = some (.str z) ∧ getK kvs z = some d ∧ Q (.d d) e1) : dIxK kvs te Xd e Q := h
theorem x_inK {kvs : List (Str × D)} (h : te Xd e fun ρ e1 => ∃ z, see e1 ρ = some (.str z) ∧ Q (.d (.bl (getK kvs z).isSome)) e1) : dInK kvs te Xd e Q := h
theorem x_notInK {kvs : List (Str × D)} (h : te Xd e fun ρ e1 => ∃ z, see e1 ρ = some (.str z) ∧ Q (.d (.bl (!(getK kvs z).isSome))) e1) : dNotInK kvs te Xd e Q := h
/-! targets -/
theorem x_gname {k : List S → Prop} (h0 : e[i]? = some s) (h1 : s.fixd = false) (h : k (e.set i (.d x))) : dgName i x e k := ⟨⟨s, h0, h1⟩, h⟩
theorem x_gtup {k : List S → Prop} {n : Nat} {us : TGDs} (hl : xs.length = n) (h : us xs e k) : dgTup n us (.tup xs) e k := ⟨xs, rfl, hl, h⟩
theorem x_gcons {k : List S → Prop} {t : TGD} {us : TGDs} (h : t x e fun e1 => us xs e1 k) : dgCons t us (x :: xs) e k := ⟨x, xs, rfl, h⟩
theorem x_gnil {k : List S → Prop} (h : k e) : dgNil [] e k := ⟨rfl, h⟩
/-! walks -/
theorem x_for {ti : TDI} {t : TGD} {tb : TDS} (h : ti Xd e fun xs e1 => forN t tb Xd De xs e1) : dFor ti t tb Xd De e := h
theorem x_iseq {Qi : List D → List S → Prop} (h : te Xd e fun ρ e1 => ∃ d xs, see e1 ρ = some d ∧ d.items = some xs ∧ Qi xs (fz e1 ρ)) : diSeq te Xd e Qi := h
theorem x_irng {Qi : List D → List S → Prop} (h : te Xd e fun ρ e1 => ∃ j, see e1 ρ = some (.int j) ∧ -(2 ^ 62) ≤ j ∧ j < 2 ^ 62 ∧ Qi (rangeD 0 j.toNat) e1) : diRng1 te Xd e Qi := h
/-! what is seen -/
theorem x_see1 {P : D → Prop} (h : P x) : ∃ d, see e (.d x) = some d ∧ P d := ⟨x, rfl, h⟩
theorem x_seel {P : D → Prop} (h : P (.lst xs)) : ∃ d, see e (.tl xs) = some d ∧ P d := ⟨_, rfl, h⟩
theorem x_seeb {P : Bool → Prop} (h : P b) : ∃ k, see e (.d (.bl b)) = some (.bl k) ∧ P k := ⟨b, rfl, h⟩
theorem x_seei {P : Int → Prop} {k : Int} (h : P k) : ∃ i, see e (.d (.int k)) = some (.int i) ∧ P i := ⟨k, rfl, h⟩
theorem x_sees {P : Str → Prop} {k : Str} (h : P k) : ∃ i, see e (.d (.str k)) = some (.str i) ∧ P i := ⟨k, rfl, h⟩
theorem x_getk {P : D → Prop} {k : Str} {kvs : List (Str × D)} (h0 : getK kvs k = some x) (h : P x) : ∃ z d, see e (.d (.str k)) = some (.str z) ∧ getK kvs z = some d ∧ P d := ⟨k, x, rfl, h0, h⟩
theorem x_slt {A P : List D → Prop} (h : P xs) : (∃ ys, D.tup xs = .lst ys ∧ A ys) ∨ ∃ ys, D.tup xs = .tup ys ∧ P ys := .inr ⟨xs, rfl, h⟩
theorem x_sll {A P : List D → Prop} (h : A xs) : (∃ ys, D.lst xs = .lst ys ∧ A ys) ∨ ∃ ys, D.lst xs = .tup ys ∧ P ys := .inl ⟨xs, rfl, h⟩
theorem x_see2 {P : D → D → Prop} {ρ1 ρ2 : R} (h1 : see e ρ1 = some x) (h2 : see e ρ2 = some y) (h : P x y) : ∃ d1 d2, see e ρ1 = some d1 ∧ see e ρ2 = some d2 ∧ P d1 d2 := ⟨x, y, h1, h2, h⟩
theorem x_seesl {P : D → Prop} {ρ : R} (h1 : see e ρ = some x) (h : P x) : ∃ d, see e ρ = some d ∧ P d := ⟨x, h1, h⟩
theorem x_ift {A B : Prop} (h : A) : if true = true then A else B := by rw [if_pos rfl]; exact h
theorem x_iff {A B : Prop} (h : B) : if false = true then A else B := by rw [if_neg Bool.false_ne_true]; exact h
/-! operations -/
theorem x_isi {Ts : List String} (h0 : x.isIns = false) (h : Qr (.d (.bl (Ts.any (isTy x))))) : r31Isi Ts x Qr := ⟨h0, h⟩
theorem x_len_l (h0 : xs.length ≤ 1000000) (h : Qr (.d (.int xs.length))) : r31Len (.lst xs) Qr := ⟨_, rfl, Nat.le_trans h0 mil, h⟩
theorem x_len_t (h0 : xs.length ≤ 1000000) (h : Qr (.d (.int xs.length))) : r31Len (.tup xs) Qr := ⟨_, rfl, Nat.le_trans h0 mil, h⟩
theorem x_ix_l {k : Int} (h0 : atI xs k = some x) (h : Qr (.d x)) : r3Ix (.lst xs) (.int k) Qr := ⟨k, rfl, .inl ⟨xs, x, rfl, h0, h⟩⟩
theorem x_ix_t {k : Int} (h0 : atI xs k = some x) (h : Qr (.d x)) : r3Ix (.tup xs) (.int k) Qr := ⟨k, rfl, .inr (.inl ⟨xs, x, rfl, h0, h⟩)⟩
theorem at_zero (x : D) (r : List D) : atI (x :: r) 0 = some x := by unfold atI ixN; simp
theorem at_one (x y : D) (r : List D) : atI (x :: y :: r) 1 = some y := by
  have h : ((1 : Int) < ((x :: y :: r).length : Nat)) := by simp only [List.length_cons]; omega
  unfold atI ixN
  rw [if_pos (by decide), if_pos h]
  rfl
theorem at_two (x y z : D) (r : List D) : atI (x :: y :: z :: r) 2 = some z := by
  have h : ((2 : Int) < ((x :: y :: z :: r).length : Nat)) := by simp only [List.length_cons]; omega
  unfold atI ixN
  rw [if_pos (by decide), if_pos h]
  rfl
theorem x_ix_t0 {r : List D} (h : Qr (.d x)) : r3Ix (.tup (x :: r)) (.int 0) Qr := x_ix_t (at_zero x r) h
theorem x_ix_l0 {r : List D} (h : Qr (.d x)) : r3Ix (.lst (x :: r)) (.int 0) Qr := x_ix_l (at_zero x r) h
theorem x_ix_t1 {r : List D} {z : D} (h : Qr (.d x)) : r3Ix (.tup (z :: x :: r)) (.int 1) Qr := x_ix_t (at_one z x r) h
theorem x_ix_l1 {r : List D} {z : D} (h : Qr (.d x)) : r3Ix (.lst (z :: x :: r)) (.int 1) Qr := x_ix_l (at_one z x r) h
theorem x_ix_t2 {r : List D} {z w : D} (h : Qr (.d x)) : r3Ix (.tup (z :: w :: x :: r)) (.int 2) Qr := x_ix_t (at_two z w x r) h
theorem x_ix_l2 {r : List D} {z w : D} (h : Qr (.d x)) : r3Ix (.lst (z :: w :: x :: r)) (.int 2) Qr := x_ix_l (at_two z w x r) h
theorem x_plus_i {k l : Int} (h : Qr (.d (.int (k + l)))) : r3Plus (.int k) (.int l) Qr := .inl ⟨k, l, rfl, rfl, trivial, h⟩
theorem x_plus_l {xs ys : List D} (h0 : xs.length + ys.length ≤ 1000000) (h : Qr (.tl (xs ++ ys))) : r3Plus (.lst xs) (.lst ys) Qr := .inr (.inr (.inl ⟨xs, ys, rfl, rfl, h0, h⟩))
theorem x_sub_i {k l : Int} (h : Qr (.d (.int (k - l)))) : r3Sub (.int k) (.int l) Qr := ⟨k, l, rfl, rfl, trivial, h⟩
theorem x_lt {k l : Int} (h : Qr (.d (.bl (decide (k < l))))) : r3Lt (.int k) (.int l) Qr := ⟨k, l, rfl, rfl, trivial, h⟩
theorem x_le {k l : Int} (h : Qr (.d (.bl (decide (k ≤ l))))) : r3Le (.int k) (.int l) Qr := ⟨k, l, rfl, rfl, trivial, h⟩
theorem x_gt {k l : Int} (h : Qr (.d (.bl (decide (l < k))))) : r3Gt (.int k) (.int l) Qr := ⟨k, l, rfl, rfl, trivial, h⟩
theorem x_ge {k l : Int} (h : Qr (.d (.bl (decide (l ≤ k))))) : r3Ge (.int k) (.int l) Qr := ⟨k, l, rfl, rfl, trivial, h⟩
theorem x_star_i {k l : Int} (h0 : CMul k l) (h : Qr (.d (.int (k * l)))) : r3Star (.int k) (.int l) Qr := .inl ⟨k, l, rfl, rfl, h0, h⟩
theorem x_div {k l : Int} (h0 : 0 < l) (h1 : l < 1073741824) (h : Qr (.d (.int (k / l)))) : r3Div (.int k) (.int l) Qr := ⟨k, l, rfl, rfl, ⟨h0, h1⟩, h⟩
theorem x_mod {k l : Int} (h0 : 0 < l) (h : Qr (.d (.int (k % l)))) : r3Mod (.int k) (.int l) Qr := ⟨k, l, rfl, rfl, h0, h⟩
theorem x_pow {k l : Int} (h0 : CPowG k l) (h : Qr (.d (.int (k ^ l.toNat)))) : r3PowG (.int k) (.int l) Qr := ⟨k, l, rfl, rfl, h0, h⟩
theorem x_int_i {k : Int} (h : Qr (.d (.int k))) : r31Int (.int k) Qr := .inl ⟨k, rfl, h⟩
theorem x_int_b {b : Bool} (h : Qr (.d (.int (if b then 1 else 0)))) : r31Int (.bl b) Qr := .inr ⟨b, rfl, h⟩
theorem x_abs {k : Int} (h : Qr (.d (.int (if k < 0 then -k else k)))) : r31Abs (.int k) Qr := ⟨k, rfl, h⟩
theorem x_wsetn {P : D → List D → Nat → Prop} {ρ : R} {k : List S} {kk : Int} {jj : Nat} (h0 : see e ρ = some x) (h1 : k[i]? = some (.wl xs)) (h2 : ixN xs.length kk = some jj) (h : P x xs jj) : ∃ d xs j, see e ρ = some d ∧ k[i]? = some (.wl xs) ∧ ixN xs.length kk = some j ∧ P d xs j := ⟨x, xs, jj, h0, h1, h2, h⟩
theorem x_eq_i {k l : Int} (h : Qr (.d (.bl (k == l)))) : r3Eq (.int k) (.int l) Qr := ⟨by simp [eqOk, D.noi, D.flat, D.depth], h⟩
theorem x_ne_i {k l : Int} (h : Qr (.d (.bl (!(k == l))))) : r3Ne (.int k) (.int l) Qr := ⟨by simp [eqOk, D.noi, D.flat, D.depth, D.isDct], h⟩
theorem x_eq {y : D} (h0 : eqOk x y = true) (h : Qr (.d (.bl (D.eqv x y)))) : r3Eq x y Qr := ⟨h0, h⟩
theorem x_ne {y : D} (h0 : (eqOk x y && !x.isDct && !y.isDct) = true) (h : Qr (.d (.bl (!D.eqv x y)))) : r3Ne x y Qr := ⟨h0, h⟩
theorem x_is_n (h : Qr (.d (.bl x.isNon))) : r3Is x .non Qr := .inl ⟨rfl, h⟩
theorem x_isnot_n (h : Qr (.d (.bl (!x.isNon)))) : r3IsNot x .non Qr := .inl ⟨rfl, h⟩
theorem x_in_t (h0 : x.flat0 = true) (h1 : xs.all D.flat0 = true) (h : Qr (.d (.bl (inD x xs)))) : r3In x (.tup xs) Qr := .inr ⟨xs, .inr rfl, h0, h1, h⟩
theorem x_notin_t (h0 : x.flat0 = true) (h1 : xs.all D.flat0 = true) (h : Qr (.d (.bl (!inD x xs)))) : r3NotIn x (.tup xs) Qr := .inr ⟨xs, .inr rfl, h0, h1, h⟩
theorem x_in_s {z w : Str} (h : Qr (.d (.bl (inStr z w)))) : r3In (.str z) (.str w) Qr := .inl ⟨z, w, rfl, rfl, h⟩
theorem x_list_t (h : Qr (.tl xs)) : r31List (.tup xs) Qr := ⟨xs, .inr rfl, h⟩
theorem x_list_l (h : Qr (.tl xs)) : r31List (.lst xs) Qr := ⟨xs, .inl rfl, h⟩
theorem x_while {tb : TDS} {n : Nat} (h : tc Xd e fun b e1 => if b = true then tb Xd { De with nx := whileN tc tb Xd De n, ct := whileN tc tb Xd De n, bk := De.nx } e1 else De.nx e1) : whileN tc tb Xd De (n + 1) e := h
theorem x_wh {tb : TDS} (n : Nat) (h : whileN tc tb Xd De n e) : dWhile tc tb Xd De e := ⟨n, h⟩
theorem x_ifp {c : Bool} {A B : Prop} (h : c = true) (hA : A) : if c = true then A else B := by rw [if_pos h]; exact hA
theorem x_ifn {c : Bool} {A B : Prop} (h : c = false) (hB : B) : if c = true then A else B := by rw [if_neg (by rw [h]; exact Bool.false_ne_true)]; exact hB
theorem x_extn {P : List D → List D → Prop} {ρ : R} {k : List S} (h0 : see e ρ = some (.lst ys)) (h1 : k[i]? = some (.ol xs)) (h2 : xs.length + ys.length ≤ 1000000) (h : P ys xs) : ∃ ds xs, see e ρ = some (.lst ds) ∧ k[i]? = some (.ol xs) ∧ xs.length + ds.length ≤ 1000000 ∧ P ds xs := ⟨ys, xs, h0, h1, h2, h⟩
theorem x_appn {P : D → List D → Prop} {ρ : R} {k : List S} (h0 : see e ρ = some x) (h1 : k[i]? = some (.ol xs)) (h2 : xs.length < 1000000) (h : P x xs) : ∃ d xs, see e ρ = some d ∧ k[i]? = some (.ol xs) ∧ xs.length < 1000000 ∧ P d xs := ⟨x, xs, h0, h1, h2, h⟩
theorem x_asgn {P : List S → Prop} {ρ : R} {e2 : List S} (h0 : e[i]? = some s) (h1 : s.fixd = false) (h2 : asg e i ρ = some e2) (h : P e2) : free e i ∧ ∃ e2, asg e i ρ = some e2 ∧ P e2 := ⟨⟨s, h0, h1⟩, e2, h2, h⟩
theorem x_parn {P : List S → Prop} {ρ1 ρ2 : R} {e3 e4 : List S} {s s' : S} (n1 : ∀ k, ρ1 ≠ .sl k) (n2 : ∀ k, ρ2 ≠ .sl k) (h0 : e[i]? = some s) (h1 : s.fixd = false) (h0' : e[j]? = some s') (h1' : s'.fixd = false) (h2 : asg e i ρ1 = some e3) (h3 : asg e3 j ρ2 = some e4) (h : P e4) :
    (∀ k, ρ1 ≠ .sl k) ∧ (∀ k, ρ2 ≠ .sl k) ∧ free e i ∧ free e j ∧ ∃ e3 e4, asg e i ρ1 = some e3 ∧ asg e3 j ρ2 = some e4 ∧ P e4 := ⟨n1, n2, ⟨s, h0, h1⟩, ⟨s', h0', h1'⟩, e3, e4, h2, h3, h⟩
theorem x_dats {P : List D → Prop} {as : List AR} (h0 : dats as = some xs) (h1 : xs.length ≤ 1000000) (h : P xs) : ∃ ds, dats as = some ds ∧ ds.length ≤ 1000000 ∧ P ds := ⟨xs, h0, h1, h⟩
theorem x_callg {P : List D → Prop} {as : List AR} {n : Nat} {dds : List D} (h0 : dats as = some xs) (h1 : (xs ++ dds).length = n) (h : P xs) : ∃ ds, dats as = some ds ∧ (ds ++ dds).length = n ∧ P ds := ⟨xs, h0, h1, h⟩
theorem x_items {P : List D → Prop} {ρ : R} (h0 : see e ρ = some x) (h1 : x.items = some xs) (h : P xs) : ∃ d xs, see e ρ = some d ∧ d.items = some xs ∧ P xs := ⟨x, xs, h0, h1, h⟩
theorem x_tail {P : List D → Prop} {ρ : R} (h0 : see e ρ = some (.lst xs)) (h : P xs) : ∃ xs, see e ρ = some (.lst xs) ∧ P xs := ⟨xs, h0, h⟩
end
end L3

/-! L3: the def that fixes nested rows, over the heap -/
namespace L3
open PySem PySem.Spec PyProof.Rows L2
/-- the frozen part and the heap, no slots -/
structure RB (c : C0) (G H : Hp) : Prop where
  gh : Same G H
  keep : ∀ a o, c.H0 a = some o → H a = some o
  gsub : Same c.G0 G
  gnew : ∀ a, G a ≠ none → c.G0 a ≠ none ∨ c.H0 a = none
  tn : c.T = []
def Free (c : C0) (G : Hp) (a : Addr) : Prop := G a = none ∧ c.H0 a = none
section
variable {K : PySem.W.Frag} {c : C0} {G H G' H' : Hp} {a p : Addr} {o : HO} {vs : List V} {σ : St}
theorem RB.free0 (r : RB c G H) (h : H a = none) : Free c G a := ⟨r.gh.free h, by
  cases q : c.H0 a with
  | none => rfl
  | some o => rw [r.keep a o q] at h; cases h⟩
theorem RB.upd (r : RB c G H) (f : Free c G a) : RB c G (upd H a o) := ⟨fun b u e => by
    have : b ≠ a := fun z => by subst z; rw [f.1] at e; cases e
    rw [upd_ne this]; exact r.gh b u e, fun b u e => by
    have : b ≠ a := fun z => by subst z; rw [f.2] at e; cases e
    rw [upd_ne this]; exact r.keep b u e, r.gsub, r.gnew, r.tn⟩
theorem RB.newT (r : RB c G H) (h : H p = none) : RB c (L2.upd G p o) (L2.upd H p o) ∧ Same G (L2.upd G p o) := by
  have f := r.free0 h
  have sg : Same G (L2.upd G p o) := fun b u e => by
    have : b ≠ p := fun z => by subst z; rw [f.1] at e; cases e
    rw [upd_ne this]; exact e
  refine ⟨⟨same_upd2 r.gh, fun b u e => ?_, r.gsub.trans sg, fun b e => ?_, r.tn⟩, sg⟩
  · have : b ≠ p := fun z => by subst z; rw [f.2] at e; cases e
    rw [upd_ne this]; exact r.keep b u e
  · by_cases z : b = p
    · subst z; exact .inr f.2
    · rw [upd_ne z] at e; exact r.gnew b e
def noE : List S := [.no, .no, .no, .no, .no]
def oneE (d : D) : List S := [.no, .no, .no, .d d, .no]
theorem RB.rel (r : RB c G H) (hl : σ.length = 5) (hn : c.n = 5) (ha : ∀ i, c.ad i = none) {d : D} {v : V} (h3 : σ[3]? = some (some v)) (rd : RepD K G d v) : Rel K c G H σ (oneE d) where
  len := hl
  sl := fun i s h => by
    match i, h with
    | 0, h => cases h; trivial
    | 1, h => cases h; trivial
    | 2, h => cases h; trivial
    | 3, h => cases h; exact ⟨v, by rw [h3]; rfl, rd⟩
    | 4, h => cases h; trivial
    | n + 5, h => simp [oneE] at h
  gh := r.gh
  keep := fun a o h _ _ => r.keep a o h
  gsub := r.gsub
  gnew := r.gnew
  own := fun a ⟨i, s, h, o, _⟩ => by
    match i, h with
    | 0, h => cases h; cases o
    | 1, h => cases h; cases o
    | 2, h => cases h; cases o
    | 3, h => cases h; cases o
    | 4, h => cases h; cases o
    | n + 5, h => simp [oneE] at h
  inj := fun i j s t a h _ o _ _ _ => by
    match i, h with
    | 0, h => cases h; cases o
    | 1, h => cases h; cases o
    | 2, h => cases h; cases o
    | 3, h => cases h; cases o
    | 4, h => cases h; cases o
    | n + 5, h => simp [oneE] at h
  rfs := fun i a h => by rw [ha i] at h; cases h
  ln := hn.symm
  tabs := by rw [r.tn]; exact fun p hp => absurd hp List.not_mem_nil
  gt := fun a ha => by unfold C0.tb at ha; rw [r.tn] at ha; cases ha
theorem oneE_own {d : D} : ¬ OwnAt σ (oneE d) a := fun ⟨i, s, h, o, _⟩ => by
  match i, h with
  | 0, h => cases h; cases o
  | 1, h => cases h; cases o
  | 2, h => cases h; cases o
  | 3, h => cases h; cases o
  | 4, h => cases h; cases o
  | n + 5, h => simp [oneE] at h
/-- behind a step of data: all that stood stands, what was free is free -/
theorem RB.step {d : D} {e' : List S} (r : RB c G H) (st : Step K c σ G H (oneE d) G' H' e') : RB c G' H' ∧ Same H H' ∧ Same G G' ∧ ∀ a, H a ≠ none → Free c G a → Free c G' a := by
  have sh : Same H H' := fun a o h => st.fr a o h oneE_own (by unfold C0.tb; rw [r.tn]; exact List.not_mem_nil)
  refine ⟨⟨st.rel.gh, fun a o h => sh a o (r.keep a o h), st.rel.gsub, st.rel.gnew, r.tn⟩, sh, st.sg, fun a h f => ⟨?_, f.2⟩⟩
  cases q : G' a with
  | none => rfl
  | some o =>
    rcases st.gn a (by rw [q]; simp) with z | z | z
    · exact absurd f.1 z
    · exact absurd z h
    · exact absurd z oneE_own
end
/-! ### the frames -/
/-- what is begun: (row, parts so far), the topmost first; the lists' addresses; the tuples -/
inductive Frs (K : PySem.W.Frag) (c : C0) (G H : Hp) : List Addr → List (D × List D) → List V → Prop
  | nil : Frs K c G H [] [] []
  | cons {t p : Addr} {one : D} {ov : V} {ps : List D} {ws : List V} {As : List Addr} {st : List (D × List D)} {vs : List V} : H t = some (.tup [ov, .ref p]) → H p = some (.lst ws) → RepD K G one ov → RepDs K G ps ws → Free c G t → Free c G p → p ∉ As → Frs K c G H As st vs →
    Frs K c G H (p :: As) ((one, ps) :: st) (.ref t :: vs)
section
variable {K : PySem.W.Frag} {c : C0} {G H G' H' : Hp} {As : List Addr} {st : List (D × List D)} {vs : List V}
theorem Frs.step (sh : Same H H') (sg : Same G G') (fr : ∀ a, H a ≠ none → Free c G a → Free c G' a) (f : Frs K c G H As st vs) : Frs K c G' H' As st vs := by
  induction f with
  | nil => exact .nil
  | cons h1 h2 h3 h4 h5 h6 h7 _ ih => exact .cons (sh _ _ h1) (sh _ _ h2) (h3.mono sg) (h4.mono sg) (fr _ (by rw [h1]; simp) h5) (fr _ (by rw [h2]; simp) h6) h7 ih
/-- a list that is no frame's is changed -/
theorem Frs.other {a : Addr} {o : HO} {ws : List V} (ha : H a = some (.lst ws)) (hn : a ∉ As) (f : Frs K c G H As st vs) : Frs K c G (upd H a o) As st vs := by
  induction f with
  | nil => exact .nil
  | @cons t p one ov ps ws' As st vs h1 h2 h3 h4 h5 h6 h7 _ ih =>
    have n1 : t ≠ a := fun z => by subst z; rw [ha] at h1; cases h1
    have n2 : p ≠ a := fun z => hn (by rw [z]; simp)
    exact .cons (by rw [upd_ne n1]; exact h1) (by rw [upd_ne n2]; exact h2) h3 h4 h5 h6 h7 (ih fun z => hn (by simp [z]))
theorem Frs.there {a : Addr} (f : Frs K c G H As st vs) (h : a ∈ As) : ∃ ws, H a = some (.lst ws) := by
  induction f with
  | nil => simp at h
  | cons h1 h2 _ _ _ _ _ _ ih =>
    rcases List.mem_cons.mp h with rfl | h
    · exact ⟨_, h2⟩
    · exact ih h
end

/-! ### the body as a term -/
def rLenF (K : PySem.W.Frag) : List V → Hp → VK → Prop := fun xs H Q => ∃ x n, xs = [x] ∧ LenV K x H n ∧ Q (.int n) H
def rTupF (K : PySem.W.Frag) : List V → Hp → VK → Prop := fun xs H Q => ∃ p ys, xs = [.ref p] ∧ ((SqL K H p ys ∧ ∀ l, H l = none → Q (.ref l) (upd H l (.tup ys))) ∨ (SqT K H p ys ∧ Q (.ref p) H))
def rIsF : R2 := fun x y H Q => y = .non ∧ Q (.bl (decide (x = .non))) H
def rGtF : R2 := rI0 fun i j => .bl (decide (j < i))
def rLtF : R2 := rI0 fun i j => .bl (decide (i < j))
/-- a list against the empty one -/
def rNeL : R2 := fun x y H Q => ∃ a b vs, x = .ref a ∧ y = .ref b ∧ H a = some (.lst vs) ∧ H b = some (.lst []) ∧ Q (.bl (!vs.isEmpty)) H
def rEqL : R2 := fun x y H Q => ∃ a b vs, x = .ref a ∧ y = .ref b ∧ H a = some (.lst vs) ∧ H b = some (.lst []) ∧ Q (.bl vs.isEmpty) H
theorem op_neL {X : Cx} (hu : X.A.units + 200 < cLine) : OpR X (compareOp .NotEq) rNeL := by
  intro pins s σ H x y v u Q I rx ry ⟨a, b, vs, e1, e2, ha, hb, q⟩
  subst e1 e2
  cases rx
  cases ry
  obtain ⟨its, r, pl, hz⟩ := I.list (.inl (.inl ha))
  obtain ⟨its2, r2, pl2, hz2⟩ := I.list (.inl (.inl hb))
  cases r2
  have e0 : its.toArray.size = vs.length := by rw [List.size_toArray]; exact r.length.symm
  cases vs with
  | nil =>
    have := PySem.SeqAt.RcNeAt.lists (A := X.A) (e := fun _ => true) pl.isList pl2.isList (by rw [e0]; rfl) (by omega) (fun j h1 h2 => absurd h2 (by simp))
    refine this X.prog X.w _ _ ?_
    have e3 : (!(List.range its.toArray.size).all fun _ => true) = false := by rw [e0]; rfl
    rw [e3]
    exact ⟨.bl false, H, I, rfl, q⟩
  | cons c r' =>
    have := PySem.SeqAt.RcNeAt.lists_lengths (A := X.A) pl.isList pl2.isList (by rw [e0]; simp) (by omega)
    exact this X.prog X.w _ _ ⟨.bl true, H, I, rfl, q⟩
theorem op_eqL {X : Cx} (hu : X.A.units + 200 < cLine) : OpR X (compareOp .Eq) rEqL := by
  intro pins s σ H x y v u Q I rx ry ⟨a, b, vs, e1, e2, ha, hb, q⟩
  subst e1 e2
  cases rx
  cases ry
  obtain ⟨its, r, pl, hz⟩ := I.list (.inl (.inl ha))
  obtain ⟨its2, r2, pl2, hz2⟩ := I.list (.inl (.inl hb))
  cases r2
  have e0 : its.toArray.size = vs.length := by rw [List.size_toArray]; exact r.length.symm
  cases vs with
  | nil =>
    have := PySem.SeqAt.RcAt.lists (A := X.A) (e := fun _ => true) pl.isList pl2.isList (by rw [e0]; rfl) (by omega) (fun j h1 h2 => absurd h2 (by simp))
    refine this X.prog X.w _ _ ?_
    have e3 : ((List.range its.toArray.size).all fun _ => true) = true := by rw [e0]; rfl
    rw [e3]
    exact ⟨.bl true, H, I, rfl, q⟩
  | cons c r' =>
    have := PySem.SeqAt.RcAt.lists_lengths (A := X.A) pl.isList pl2.isList (by rw [e0]; simp) (by omega)
    exact this X.prog X.w _ _ ⟨.bl false, H, I, rfl, q⟩
def fxCond (K : PySem.W.Frag) : TT := tTest (tOp rNeL (tVar 2) (tLst tNil))
def fxPop (K : PySem.W.Frag) : TS := tAsg (tBM0 K "list" rPop (tVar 2)) (gTup K 2 (gCons (gName 3) (gCons (gName 4) gNil)))
def fxNew (K : PySem.W.Frag) : TS := tSeq (tDrop (tBM K "list" rAppend (tVar 2) (tCons (tTup (tCons (tVar 3) (tCons (tLst tNil) tNil))) tNil)))
  (tSeq (tAsg (tC .non) (gName 1))
  (tSeq (tIfS (tTest (tOp rGtF (tCB (rLenF K) (tCons (tVar 3) tNil)) (tC (.int 0)))) (tSeq (tDrop (tBM K "list" rAppend (tVar 2) (tCons (tTup (tCons (tOp (rIx K) (tVar 3) (tC (.int 0))) (tCons (tC .non) tNil))) tNil))) tCont) tNext)
  (tSeq (tDrop (tBM0 K "list" rPop (tVar 2))) (tAsg (tTup tNil) (gName 1)))))
def fxMore (K : PySem.W.Frag) : TS := tSeq (tDrop (tBM K "list" rAppend (tVar 4) (tCons (tVar 1) tNil)))
  (tSeq (tIfS (tTest (tOp rLtF (tCB (rLenF K) (tCons (tVar 4) tNil)) (tCB (rLenF K) (tCons (tVar 3) tNil))))
     (tSeq (tDrop (tBM K "list" rAppend (tVar 2) (tCons (tTup (tCons (tVar 3) (tCons (tVar 4) tNil))) tNil)))
     (tSeq (tDrop (tBM K "list" rAppend (tVar 2) (tCons (tTup (tCons (tOp (rIx K) (tVar 3) (tCB (rLenF K) (tCons (tVar 4) tNil))) (tCons (tC .non) tNil))) tNil))) tCont)) tNext)
  (tAsg (tCB (rTupF K) (tCons (tVar 4) tNil)) (gName 1)))
def fxEnd (K : PySem.W.Frag) : TS := tIfS (tTest (tOp rEqL (tVar 2) (tLst tNil))) (tRet (tVar 1)) tNext
def fxBody (K : PySem.W.Frag) (rT : TT) : TS := tSeq (fxPop K) (tSeq (tIfS rT (tAsg (tVar 3) (gName 1)) (tIfS (tTest (tOp rIsF (tVar 4) (tC .non))) (fxNew K) (fxMore K))) (fxEnd K))
def tFixed (K : PySem.W.Frag) (rT : TT) : TS := tSeq (tPar 1 2 (tCons (tC .non) (tCons (tLst (tCons (tTup (tCons (tVar 0) (tCons (tC .non) tNil))) tNil)) tNil)))
  (tSeq (tWhile (fxCond K) (fxBody K rT)) (tRet (tVar 1)))

/-! ### what it gives -/
mutual
def fxD : D → D
  | .lst xs => .tup (fxDs xs)
  | .tup xs => .tup (fxDs xs)
  | d => d
def fxDs : List D → List D
  | [] => []
  | x :: r => fxD x :: fxDs r
end
mutual
def wt : D → Nat
  | .lst xs => wts xs + 3
  | .tup xs => wts xs + 3
  | _ => 3
def wts : List D → Nat
  | [] => 0
  | x :: r => wt x + 1 + wts r
end
theorem wts_drop : ∀ (xs : List D) (i : Nat) (x : D), xs[i]? = some x → wts (xs.drop i) = wt x + 1 + wts (xs.drop (i + 1))
  | [], _, _, h => by simp at h
  | y :: r, 0, x, h => by simp at h; subst h; rfl
  | y :: r, i + 1, x, h => by simpa using wts_drop r i x (by simpa using h)
theorem fxDs_drop : ∀ (xs : List D) (i : Nat) (x : D), xs[i]? = some x → fxDs (xs.drop i) = fxD x :: fxDs (xs.drop (i + 1))
  | [], _, _, h => by simp at h
  | y :: r, 0, x, h => by simp at h; subst h; rfl
  | y :: r, i + 1, x, h => by simpa using fxDs_drop r i x (by simpa using h)
theorem wts_len : ∀ xs : List D, xs.length ≤ wts xs
  | [] => Nat.le_refl _
  | x :: r => by simp only [List.length_cons, wts]; have := wts_len r; omega
def rowI : D → Option (List D)
  | .lst xs => some xs
  | .tup xs => some xs
  | _ => none
def rowB (d : D) : Bool := (rowI d).isSome
theorem fx_leaf {d : D} (h : rowI d = none) : fxD d = d := by cases d <;> first | rfl | cases h
theorem fx_row {d : D} {xs : List D} (h : rowI d = some xs) : fxD d = .tup (fxDs xs) := by cases d <;> first | (cases h; rfl) | cases h
theorem wt_row {d : D} {xs : List D} (h : rowI d = some xs) : wt d = wts xs + 3 := by cases d <;> first | (cases h; rfl) | cases h
theorem wt_pos (d : D) : 3 ≤ wt d := by cases d <;> simp [wt]
def itsD (d : D) : List D := (rowI d).getD []
def fw (q : D × List D) : Nat := 1 + wts ((itsD q.1).drop (q.2.length + 1))
def fws : List (D × List D) → Nat
  | [] => 0
  | q :: r => fw q + fws r
theorem fws_len : ∀ st : List (D × List D), st.length ≤ fws st
  | [] => Nat.le_refl _
  | q :: r => by simp only [List.length_cons, fws, fw]; have := fws_len r; omega
def res : List (D × List D) → D → D
  | [], v => v
  | (one, ps) :: st, v => res st (.tup (ps ++ v :: fxDs ((itsD one).drop (ps.length + 1))))
structure okQ (q : D × List D) : Prop where
  noi : q.1.noi = true
  ex : ∃ xs, rowI q.1 = some xs ∧ q.2.length < xs.length ∧ xs.length ≤ 1000000
/-- the state at the loop's head: a datum is to be fixed, or one was -/
structure LH (K : PySem.W.Frag) (c : C0) (x : D) (m : Nat) (σ : St) (H : Hp) (G : Hp) (L : Addr) (As : List Addr) (st : List (D × List D)) (vs : List V) : Prop where
  rb : RB c G H
  len : σ.length = 5
  sL : σ[2]? = some (some (.ref L))
  fL : Free c G L
  nL : L ∉ As
  fr : Frs K c G H As st vs
  ok : ∀ q ∈ st, okQ q
  small : m ≤ 1000000
inductive LHm (K : PySem.W.Frag) (c : C0) (x : D) (m : Nat) (σ : St) (H : Hp) : Prop
  | ev {G : Hp} {L : Addr} {As : List Addr} {st : List (D × List D)} {vs : List V} {d : D} {v : V} : LH K c x m σ H G L As st vs → RepD K G (.tup [d, .non]) v → d.noi = true → H L = some (.lst (vs.reverse ++ [v])) → wt d + fws st ≤ m → res st (fxD d) = fxD x → LHm K c x m σ H
  | rt {G : Hp} {L : Addr} {As : List Addr} {st : List (D × List D)} {vs : List V} {d : D} {v : V} : LH K c x m σ H G L As st vs → RepD K G d v → σ[1]? = some (some v) → st ≠ [] → H L = some (.lst vs.reverse) → fws st ≤ m → res st d = fxD x → LHm K c x m σ H
end L3

/-! L3: the loop of the def that fixes rows -/
namespace L3
open PySem PySem.Spec PyProof.Rows L2
section
variable {K : PySem.W.Frag} {c : C0} {x : D} {m m' : Nat} {σ σ' : St} {H G : Hp} {L p : Addr} {As : List Addr} {st : List (D × List D)} {vs xs : List V} {o : HO} {v v1 v2 : V}
theorem LH.fresh (h : LH K c x m σ H G L As st vs) (hp : H p = none) : LH K c x m σ (upd H p o) G L As st vs :=
  ⟨h.rb.upd (h.rb.free0 hp), h.len, h.sL, h.fL, h.nL, h.fr.step (same_upd hp) (Same.refl _) (fun _ _ f => f), h.ok, h.small⟩
/-- the list of what is open is stored anew -/
theorem LH.line (h : LH K c x m σ H G L As st vs) (hL : H L = some (.lst xs)) : LH K c x m σ (upd H L o) G L As st vs :=
  ⟨h.rb.upd h.fL, h.len, h.sL, h.fL, h.nL, h.fr.other hL h.nL, h.ok, h.small⟩
theorem LH.locs (h : LH K c x m σ H G L As st vs) (hl : σ'.length = 5) (h2 : σ'[2]? = σ[2]?) : LH K c x m σ' H G L As st vs :=
  ⟨h.rb, hl, by rw [h2]; exact h.sL, h.fL, h.nL, h.fr, h.ok, h.small⟩
theorem LH.less (h : LH K c x m σ H G L As st vs) (hm : m' ≤ m) : LH K c x m' σ H G L As st vs := ⟨h.rb, h.len, h.sL, h.fL, h.nL, h.fr, h.ok, Nat.le_trans hm h.small⟩
theorem fx_cond {Q : Bool → Hp → Prop} (sL : σ[2]? = some (some (.ref L))) (hL : H L = some (.lst xs)) (hq : ∀ p, H p = none → Q (!xs.isEmpty) (upd H p (.lst []))) : fxCond K σ H Q := by
  refine ⟨.ref L, sL, Nat.zero_le _, fun p hp => ⟨L, p, xs, rfl, rfl, ?_, upd_same, _, rfl, hq p hp⟩⟩
  rw [upd_ne (ne_of_none hL hp)]; exact hL
theorem fx_empty {Q : Bool → Hp → Prop} (sL : σ[2]? = some (some (.ref L))) (hL : H L = some (.lst xs)) (hq : ∀ p, H p = none → Q xs.isEmpty (upd H p (.lst []))) : tTest (tOp rEqL (tVar 2) (tLst tNil)) σ H Q := by
  refine ⟨.ref L, sL, Nat.zero_le _, fun p hp => ⟨L, p, xs, rfl, rfl, ?_, upd_same, _, rfl, hq p hp⟩⟩
  rw [upd_ne (ne_of_none hL hp)]; exact hL
theorem fx_pop {D : Ends} {a : Addr} (sL : σ[2]? = some (some (.ref L))) (hL : H L = some (.lst (xs ++ [.ref a]))) (ha : SqT K (upd H L (.lst xs)) a [v1, v2]) (hq : D.nx ((σ.set 3 (some v1)).set 4 (some v2)) (upd H L (.lst xs))) : fxPop K D σ H := by
  refine ⟨.ref L, sL, .inl ⟨rfl, _, .inl (.inl hL)⟩, L, xs ++ [.ref a], .ref a, rfl, rfl, hL, by simp, ?_⟩
  rw [List.dropLast_concat]
  exact ⟨a, [v1, v2], rfl, ha, rfl, v1, [v2], rfl, v2, [], rfl, rfl, hq⟩
/-- the row test -/
def fxRow (K : PySem.W.Frag) (c : C0) (W : WX) (spR : SpD) : TT := liftT K c W (dNot (dB (dCall 1 spR [] (dCons (dVar 3) dNil))))
theorem fx_row_test {W : WX} {spR : SpD} (hrow : ∀ (d : D) (Qd : D → List S → Prop) (Xd : XV → List S → Prop), d.isIns = false → Qd (.bl (rowB d)) [.d d] → spR [.d d] Qd Xd) (hn : c.n = 5) (hc : ∀ i, c.ad i = none) {d : D} {ov : V} {Q : Bool → Hp → Prop}
    (h : LH K c x m σ H G L As st vs) (h3 : σ[3]? = some (some ov)) (rd : RepD K G d ov) (hi : d.isIns = false) (hL : H L ≠ none)
    (hq : ∀ (G' H' : Hp), LH K c x m σ H' G' L As st vs → Same H H' → Same G G' → (∀ a, H a ≠ none → Free c G a → Free c G' a) → Q (!rowB d) H') : fxRow K c W spR σ H Q := by
  have rel := h.rb.rel h.len hn hc h3 rd
  refine ⟨G, oneE d, fun b e' => b = !rowB d, fun _ _ => False, rel, ?_, fun b e' G' H' stp e => ?_, fun _ _ _ _ _ _ _ _ z => z.elim⟩
  · refine x_not (x_b (x_call (x_cons (x_var (s := .d d) rfl ?_))))
    refine ⟨d, rfl, x_nil ?_⟩
    exact ⟨[d], rfl, rfl, hrow d _ _ hi ⟨rowB d, rfl, rfl⟩⟩
  · subst e
    obtain ⟨r', sh, sg, fr⟩ := h.rb.step stp
    refine hq G' H' ⟨r', h.len, h.sL, fr _ hL h.fL, h.nL, h.fr.step sh sg fr, h.ok, h.small⟩ sh sg fr
theorem fx_done {Dx : Ends} {d : D} {v : V} (hD : ∀ (v : V) (G H : Hp), RB c G H → RepD K G (fxD x) v → Dx.rt v H) (h : LH K c x m σ H G L As st vs) (hm : fws st ≤ m) (rd : RepD K G d v) (h1 : σ[1]? = some (some v)) (hL : H L = some (.lst vs.reverse)) (hr : res st d = fxD x)
    (hvs : vs.length = st.length) (hnx : ∀ σ' H', LHm K c x m σ' H' → Dx.nx σ' H') : fxEnd K Dx σ H := by
  refine fx_empty h.sL hL fun p hp => ?_
  have h' := h.fresh (o := .lst []) hp
  have hL' : upd H p (.lst []) L = some (.lst vs.reverse) := by rw [upd_ne (ne_of_none hL hp)]; exact hL
  cases st with
  | nil =>
    have : vs = [] := List.eq_nil_of_length_eq_zero hvs
    subst this
    exact ⟨v, h1, hD v G _ h'.rb (by rw [← hr]; exact rd)⟩
  | cons q r =>
    cases vs with
    | nil => cases hvs
    | cons w ws =>
      have e : (w :: ws).reverse.isEmpty = false := by simp
      rw [e]
      show Dx.nx σ _
      exact hnx _ _ (.rt h' rd h1 (by simp) hL' hm hr)
theorem rowLen {d : D} {ov : V} {ys : List D} (rd : RepD K G d ov) (hr : rowI d = some ys) (sg : Same G H) : LenV K ov H ys.length := by
  cases rd with
  | lst h1 h2 => cases hr; exact .inl ⟨_, .inl (.inl (sg _ _ h1)), h2.length⟩
  | tup h1 h2 => cases hr; exact .inr ⟨_, Same.seqT sg h1, h2.length⟩
  | _ => cases hr
theorem rowAt {d y : D} {ov : V} {ys : List D} {i : Nat} {Q : VK} (rd : RepD K G d ov) (hr : rowI d = some ys) (sg : Same G H) (hy : ys[i]? = some y) (hq : ∀ yv, RepD K G y yv → Q yv H) : rIx K ov (.int (i : Nat)) H Q := by
  have hi : i < ys.length := (List.getElem?_eq_some_iff.mp hy).1
  have at_ : ∀ ws : List V, RepDs K G ys ws → ∃ yv, atI ws (i : Nat) = some yv ∧ RepD K G y yv := fun ws rw' => by
    obtain ⟨yv, h1, h2⟩ := rw'.get' hy
    refine ⟨yv, ?_, h2⟩
    unfold atI ixN
    rw [if_pos (by omega), if_pos (by rw [← rw'.length]; omega)]
    simpa using h1
  cases rd with
  | lst h1 h2 =>
    cases hr
    obtain ⟨yv, e1, e2⟩ := at_ _ h2
    exact .inl ⟨_, _, _, yv, rfl, rfl, .inl (.inl (sg _ _ h1)), e1, hq yv e2⟩
  | tup h1 h2 =>
    cases hr
    obtain ⟨yv, e1, e2⟩ := at_ _ h2
    exact .inr (.inl ⟨_, _, _, yv, rfl, rfl, Same.seqT sg h1, e1, hq yv e2⟩)
  | _ => cases hr
/-- a row is begun -/
theorem LH.push {d : D} {ov : V} {ys : List D} {t q : Addr} (h : LH K c x m σ H G L As st vs) (hL : H L = some (.lst xs)) (rd : RepD K G d ov) (hr : rowI d = some ys) (hd : d.noi = true) (hne : ys ≠ []) (hl : ys.length ≤ 1000000) (hq : H q = none) (ht : upd H q (.lst []) t = none) :
    LH K c x m σ (upd (upd (upd H q (.lst [])) t (.tup [ov, .ref q])) L o) G L (q :: As) ((d, []) :: st) (.ref t :: vs) := by
  have h1 := h.fresh (o := .lst []) hq
  have h2 := h1.fresh (o := .tup [ov, .ref q]) ht
  have hL2 : upd (upd H q (.lst [])) t (.tup [ov, .ref q]) L = some (.lst xs) := by
    have e1 : upd H q (.lst []) L = some (.lst xs) := by rw [upd_ne (ne_of_none hL hq)]; exact hL
    rw [upd_ne (ne_of_none e1 ht)]; exact e1
  have hq0 : upd H q (.lst []) q = some (.lst []) := upd_same
  have hqn : q ∉ As := fun z => by
    obtain ⟨ws, hw⟩ := h.fr.there z
    rw [hq] at hw; cases hw
  have hqL : q ≠ L := fun z => by subst z; rw [hq] at hL; cases hL
  have hqt : q ≠ t := fun z => by subst z; rw [hq0] at ht; cases ht
  have fr' : Frs K c G (upd (upd H q (.lst [])) t (.tup [ov, .ref q])) (q :: As) ((d, []) :: st) (.ref t :: vs) :=
    .cons upd_same (by rw [upd_ne hqt]; exact hq0) rd .nil (h1.rb.free0 ht) (h.rb.free0 hq) hqn h2.fr
  have hLn : L ∉ q :: As := fun z => by
    rcases List.mem_cons.mp z with z | z
    · exact hqL z.symm
    · exact h.nL z
  refine ⟨h2.rb.upd h.fL, h.len, h.sL, h.fL, hLn, fr'.other hL2 hLn, fun z hz => ?_, h.small⟩
  rcases List.mem_cons.mp hz with rfl | hz
  · exact ⟨hd, ys, hr, by simp only [List.length_nil]; exact List.length_pos_iff.mpr hne, hl⟩
  · exact h.ok z hz
theorem LH.newT {z : Addr} {ws : List V} {ds : List D} (h : LH K c x m σ H G L As st vs) (hz : H z = none) (hL : H L ≠ none) (rd : RepDs K G ds ws) : LH K c x m σ (upd H z (.tup ws)) (upd G z (.tup ws)) L As st vs ∧ RepD K (upd G z (.tup ws)) (.tup ds) (.ref z) ∧ Same G (upd G z (.tup ws)) := by
  obtain ⟨r', sg⟩ := h.rb.newT (o := .tup ws) hz
  have fr : ∀ a, H a ≠ none → Free c G a → Free c (upd G z (.tup ws)) a := fun a ha f => ⟨by
    have : a ≠ z := fun e => by subst e; exact ha hz
    rw [upd_ne this]; exact f.1, f.2⟩
  exact ⟨⟨r', h.len, h.sL, fr _ hL h.fL, h.nL, h.fr.step (same_upd hz) sg fr, h.ok, h.small⟩, .tup (.inl (.inl upd_same)) (rd.mono sg), sg⟩
theorem set1 (hl : σ.length = 5) : (σ.set 1 (some v))[1]? = some (some v) := List.getElem?_set_self (by omega)
theorem fx_new {Dx : Ends} {d : D} {ov : V} {ys : List D} (h : LH K c x m σ H G L As st vs) (hL : H L = some (.lst vs.reverse)) (h3 : σ[3]? = some (some ov)) (rd : RepD K G d ov) (hr : rowI d = some ys) (hd : d.noi = true) (hl : ys.length ≤ 1000000) (hvl : vs.length + 2 < sizeLine)
    (hnil : ys = [] → ∀ σ' H' G' v, LH K c x m σ' H' G' L As st vs → H' L = some (.lst vs.reverse) → RepD K G' (.tup []) v → σ'[1]? = some (some v) → Dx.nx σ' H')
    (hcons : ∀ y r, ys = y :: r → ∀ σ' H' G' v q t, LH K c x m σ' H' G' L (q :: As) ((d, []) :: st) (.ref t :: vs) → RepD K G' (.tup [y, .non]) v → H' L = some (.lst ((V.ref t :: vs).reverse ++ [v])) → Dx.ct σ' H') : fxNew K Dx σ H := by
  have hvr : vs.reverse.length = vs.length := List.length_reverse
  refine ⟨.ref L, h.sL, .inl ⟨rfl, _, .inl (.inl hL)⟩, ov, h3, Nat.zero_le _, fun q hq => ⟨by show 2 ≤ _; exact Nat.le_trans (by decide) mil, fun t ht => ?_⟩⟩
  have h1 := h.fresh (o := .lst []) hq
  have h2 := h1.fresh (o := .tup [ov, .ref q]) ht
  have hL1 : upd H q (.lst []) L = some (.lst vs.reverse) := by rw [upd_ne (ne_of_none hL hq)]; exact hL
  have hL2 : upd (upd H q (.lst [])) t (.tup [ov, .ref q]) L = some (.lst vs.reverse) := by rw [upd_ne (ne_of_none hL1 ht)]; exact hL1
  refine ⟨L, vs.reverse, .ref t, rfl, rfl, hL2, by omega, ?_⟩
  generalize hH3 : upd (upd (upd H q (.lst [])) t (.tup [ov, .ref q])) L (.lst (vs.reverse ++ [.ref t])) = H3
  have hL3 : H3 L = some (.lst (vs.reverse ++ [.ref t])) := by rw [← hH3]; exact upd_same
  have l3 : LH K c x m σ H3 G L As st vs := by rw [← hH3]; exact h2.line hL2
  have s1l : (σ.set 1 (some V.non)).length = 5 := by rw [List.length_set]; exact h.len
  have l3' : LH K c x m (σ.set 1 (some .non)) H3 G L As st vs := l3.locs s1l (by rw [List.getElem?_set_ne (by decide)])
  have h3' : (σ.set 1 (some V.non))[3]? = some (some ov) := by rw [List.getElem?_set_ne (by decide)]; exact h3
  refine ⟨ov, h3', ov, ys.length, rfl, rowLen rd hr l3.rb.gh, _, _, rfl, rfl, _, rfl, ?_⟩
  cases ys with
  | nil =>
    refine ⟨.ref L, l3'.sL, .inl ⟨rfl, _, .inl (.inl hL3)⟩, L, _, .ref t, rfl, rfl, hL3, by simp, ?_⟩
    rw [List.dropLast_concat]
    refine ⟨Nat.zero_le _, fun z hz => ?_⟩
    have l4 := l3'.line (o := .lst vs.reverse) hL3
    have hL4 : upd H3 L (.lst vs.reverse) L = some (.lst vs.reverse) := upd_same
    obtain ⟨l5, rt, _⟩ := l4.newT (ds := []) hz (by rw [hL4]; simp) .nil
    refine hnil rfl _ _ _ _ (l5.locs (by rw [List.length_set]; exact s1l) (by rw [List.getElem?_set_ne (by decide)])) ?_ rt (set1 s1l)
    rw [upd_ne (ne_of_none hL4 hz)]; exact hL4
  | cons y r =>
    have l6 : LH K c x m σ H3 G L (q :: As) ((d, []) :: st) (.ref t :: vs) := by
      rw [← hH3]; exact h.push hL rd hr hd (by simp) hl hq ht
    have l6' : LH K c x m (σ.set 1 (some .non)) H3 G L (q :: As) ((d, []) :: st) (.ref t :: vs) := l6.locs s1l (by rw [List.getElem?_set_ne (by decide)])
    have e0 : (decide ((0 : Int) < ((y :: r).length : Nat))) = true := by simp
    rw [e0]
    refine ⟨.ref L, l6'.sL, .inl ⟨rfl, _, .inl (.inl hL3)⟩, ov, h3', rowAt (i := 0) rd hr l6'.rb.gh rfl fun yv ry => ?_⟩
    refine ⟨by show 2 ≤ _; exact Nat.le_trans (by decide) mil, fun z hz => ?_⟩
    obtain ⟨l7, rt, _⟩ := l6'.newT (ds := [y, .non]) hz (by rw [hL3]; simp) (.cons ry (.cons .non .nil))
    have hL7 : upd H3 z (.tup [yv, .non]) L = some (.lst (vs.reverse ++ [.ref t])) := by rw [upd_ne (ne_of_none hL3 hz)]; exact hL3
    refine ⟨L, vs.reverse ++ [.ref t], .ref z, rfl, rfl, hL7, by simp; omega, ?_⟩
    exact hcons y r rfl _ _ _ _ q t (l7.line hL7) rt (by rw [upd_same]; simp)
theorem LH.other {ws : List V} (h : LH K c x m σ H G L As st vs) (hp : H p = some (.lst ws)) (fp : Free c G p) (np : p ∉ As) : LH K c x m σ (upd H p o) G L As st vs :=
  ⟨h.rb.upd fp, h.len, h.sL, h.fL, h.nL, h.fr.other hp np, h.ok, h.small⟩
theorem fx_more {Dx : Ends} {one d : D} {ov dv : V} {ps ys : List D} {ws : List V} (h : LH K c x m σ H G L As st vs) (hp : H p = some (.lst ws)) (fp : Free c G p) (np : p ∉ As) (npL : p ≠ L) (hL : H L = some (.lst vs.reverse)) (h3 : σ[3]? = some (some ov)) (h4 : σ[4]? = some (some (.ref p))) (h1 : σ[1]? = some (some dv))
    (rd : RepD K G d dv) (ro : RepD K G one ov) (rp : RepDs K G ps ws) (hr : rowI one = some ys) (hno : one.noi = true) (hlt : ps.length < ys.length) (hl : ys.length ≤ 1000000) (hvl : vs.length + 2 < sizeLine)
    (hend : ps.length + 1 = ys.length → ∀ σ' H' G' v, LH K c x m σ' H' G' L As st vs → H' L = some (.lst vs.reverse) → RepD K G' (.tup (ps ++ [d])) v → σ'[1]? = some (some v) → Dx.nx σ' H')
    (hnext : ∀ y, ys[ps.length + 1]? = some y → ∀ σ' H' G' v t, LH K c x m σ' H' G' L (p :: As) ((one, ps ++ [d]) :: st) (.ref t :: vs) → RepD K G' (.tup [y, .non]) v → H' L = some (.lst ((V.ref t :: vs).reverse ++ [v])) → Dx.ct σ' H') : fxMore K Dx σ H := by
  have hvr : vs.reverse.length = vs.length := List.length_reverse
  have lp := rp.length
  have ml := mil
  refine ⟨.ref p, h4, .inl ⟨rfl, _, .inl (.inl hp)⟩, dv, h1, p, ws, dv, rfl, rfl, hp, by omega, ?_⟩
  have l1 := h.other (o := .lst (ws ++ [dv])) hp fp np
  have hp1 : upd H p (.lst (ws ++ [dv])) p = some (.lst (ws ++ [dv])) := upd_same
  have hL1 : upd H p (.lst (ws ++ [dv])) L = some (.lst vs.reverse) := by rw [upd_ne fun e => npL e.symm]; exact hL
  have rp1 : RepDs K G (ps ++ [d]) (ws ++ [dv]) := rp.append (.cons rd .nil)
  have lp1 : (ws ++ [dv]).length = ps.length + 1 := by rw [List.length_append, ← lp]; rfl
  generalize upd H p (.lst (ws ++ [dv])) = H1 at l1 hp1 hL1
  refine ⟨.ref p, h4, .ref p, ps.length + 1, rfl, .inl ⟨_, .inl (.inl hp1), lp1.symm⟩, ov, h3, ov, ys.length, rfl, rowLen ro hr l1.rb.gh, _, _, rfl, rfl, _, rfl, ?_⟩
  by_cases hc : ps.length + 1 < ys.length
  · obtain ⟨y, hy⟩ : ∃ y, ys[ps.length + 1]? = some y := ⟨_, List.getElem?_eq_getElem hc⟩
    rw [decide_eq_true (show (((ps.length + 1 : Nat)) : Int) < (ys.length : Nat) by omega)]
    refine ⟨.ref L, l1.sL, .inl ⟨rfl, _, .inl (.inl hL1)⟩, ov, h3, .ref p, h4, by show 2 ≤ _; exact Nat.le_trans (by decide) mil, fun t ht => ?_⟩
    have l2 := l1.fresh (o := .tup [ov, .ref p]) ht
    have hL2 : upd H1 t (.tup [ov, .ref p]) L = some (.lst vs.reverse) := by rw [upd_ne (ne_of_none hL1 ht)]; exact hL1
    have hp2 : upd H1 t (.tup [ov, .ref p]) p = some (.lst (ws ++ [dv])) := by rw [upd_ne (ne_of_none hp1 ht)]; exact hp1
    have fr2 : Frs K c G (upd H1 t (.tup [ov, .ref p])) (p :: As) ((one, ps ++ [d]) :: st) (.ref t :: vs) := .cons upd_same hp2 ro rp1 (l1.rb.free0 ht) fp np l2.fr
    have hLn : L ∉ p :: As := fun z => by
      rcases List.mem_cons.mp z with z | z
      · exact npL z.symm
      · exact l1.nL z
    have l3 : LH K c x m σ (upd H1 t (.tup [ov, .ref p])) G L (p :: As) ((one, ps ++ [d]) :: st) (.ref t :: vs) := ⟨l2.rb, l2.len, l2.sL, l2.fL, hLn, fr2, fun z hz => by
      rcases List.mem_cons.mp hz with rfl | hz
      · exact ⟨hno, ys, hr, by simpa using hc, hl⟩
      · exact l1.ok z hz, l2.small⟩
    refine ⟨L, vs.reverse, .ref t, rfl, rfl, hL2, by omega, ?_⟩
    have l4 := l3.line (o := .lst (vs.reverse ++ [.ref t])) hL2
    have hp4 : upd (upd H1 t (.tup [ov, .ref p])) L (.lst (vs.reverse ++ [.ref t])) p = some (.lst (ws ++ [dv])) := by rw [upd_ne npL]; exact hp2
    have hL4 : upd (upd H1 t (.tup [ov, .ref p])) L (.lst (vs.reverse ++ [.ref t])) L = some (.lst (vs.reverse ++ [.ref t])) := upd_same
    generalize upd (upd H1 t (.tup [ov, .ref p])) L (.lst (vs.reverse ++ [.ref t])) = H4 at l4 hp4 hL4
    refine ⟨.ref L, l4.sL, .inl ⟨rfl, _, .inl (.inl hL4)⟩, ov, h3, .ref p, h4, .ref p, ps.length + 1, rfl, .inl ⟨_, .inl (.inl hp4), lp1.symm⟩, rowAt ro hr l4.rb.gh hy fun yv ry => ?_⟩
    refine ⟨by show 2 ≤ _; exact Nat.le_trans (by decide) mil, fun z hz => ?_⟩
    obtain ⟨l7, rt, _⟩ := l4.newT (ds := [y, .non]) hz (by rw [hL4]; simp) (.cons ry (.cons .non .nil))
    have hL7 : upd H4 z (.tup [yv, .non]) L = some (.lst (vs.reverse ++ [.ref t])) := by rw [upd_ne (ne_of_none hL4 hz)]; exact hL4
    refine ⟨L, vs.reverse ++ [.ref t], .ref z, rfl, rfl, hL7, by simp; omega, ?_⟩
    exact hnext y hy _ _ _ _ t (l7.line hL7) rt (by rw [upd_same]; simp)
  · rw [decide_eq_false (show ¬ (((ps.length + 1 : Nat)) : Int) < (ys.length : Nat) by omega)]
    refine ⟨.ref p, h4, p, ws ++ [dv], rfl, .inl ⟨.inl (.inl hp1), fun z hz => ?_⟩⟩
    obtain ⟨l5, rt, _⟩ := l1.newT hz (by rw [hL1]; simp) rp1
    refine hend (by omega) _ _ _ _ (l5.locs (by rw [List.length_set]; exact h.len) (by rw [List.getElem?_set_ne (by decide)])) ?_ rt (set1 h.len)
    rw [upd_ne (ne_of_none hL1 hz)]; exact hL1
end
end L3

/-! L3: the loop's turn; the def -/
namespace L3
open PySem PySem.Spec PyProof.Rows L2
section
variable {K : PySem.W.Frag} {c : C0} {x : D} {m : Nat} {σ : St} {H : Hp} {W : WX} {spR : SpD}
theorem frs_len {G H : Hp} {As : List Addr} {st : List (D × List D)} {vs : List V} (f : Frs K c G H As st vs) : vs.length = st.length := by
  induction f with
  | nil => rfl
  | cons _ _ _ _ _ _ _ _ ih => simp [ih]
theorem fx_step (hrow : ∀ (d : D) (Qd : D → List S → Prop) (Xd : XV → List S → Prop), d.isIns = false → Qd (.bl (rowB d)) [.d d] → spR [.d d] Qd Xd) (hins : ∀ d : D, d.noi = true → d.isIns = false) (hn : c.n = 5) (hc : ∀ i, c.ad i = none) {Dx : Ends} (hD : ∀ (v : V) (G H : Hp), RB c G H → RepD K G (fxD x) v → Dx.rt v H)
    (hsub : ∀ (d y : D) (ys : List D), d.noi = true → rowI d = some ys → y ∈ ys → y.noi = true) (h : LHm K c x m σ H) :
    fxCond K σ H fun b H1 => if b = true then ∃ N : St → Hp → Prop, (∀ σ' H', N σ' H' → ∃ m', m' < m ∧ LHm K c x m' σ' H') ∧ fxBody K (fxRow K c W spR) { Dx with nx := N, ct := N, bk := Dx.nx } σ H1 else Dx.nx σ H1 := by
  have ml := mil
  cases h with
  | @ev G L As st vs d v h rt hno hL hm hres =>
    refine fx_cond h.sL hL fun p hp => ?_
    have e0 : (!(vs.reverse ++ [v]).isEmpty) = true := by simp
    rw [e0, if_pos rfl]
    refine ⟨fun σ' H' => ∃ m', m' < m ∧ LHm K c x m' σ' H', fun _ _ z => z, ?_⟩
    have h1 := h.fresh (o := .lst []) hp
    have hL1 : upd H p (.lst []) L = some (.lst (vs.reverse ++ [v])) := by rw [upd_ne (ne_of_none hL hp)]; exact hL
    generalize upd H p (.lst []) = H1 at h1 hL1
    cases rt with
    | @tup a ws _ k1 k2 =>
      cases k2 with
      | @cons _ ov _ _ rd k3 =>
        cases k3 with
        | cons rn k4 =>
          cases rn
          cases k4
          have h2 := h1.line (o := .lst vs.reverse) hL1
          refine fx_pop h1.sL hL1 (Same.seqT h2.rb.gh k1) ?_
          have hl5 : ((σ.set 3 (some ov)).set 4 (some V.non)).length = 5 := by rw [List.length_set, List.length_set]; exact h.len
          have s3 : ((σ.set 3 (some ov)).set 4 (some V.non))[3]? = some (some ov) := by rw [List.getElem?_set_ne (by decide)]; exact List.getElem?_set_self (by have := h.len; omega)
          have s4 : ((σ.set 3 (some ov)).set 4 (some V.non))[4]? = some (some .non) := List.getElem?_set_self (by rw [List.length_set]; have := h.len; omega)
          have h3 : LH K c x m ((σ.set 3 (some ov)).set 4 (some .non)) (upd H1 L (.lst vs.reverse)) G L As st vs := h2.locs hl5 (by rw [List.getElem?_set_ne (by decide), List.getElem?_set_ne (by decide)])
          have hL3 : upd H1 L (.lst vs.reverse) L = some (.lst vs.reverse) := upd_same
          generalize (σ.set 3 (some ov)).set 4 (some V.non) = σ1 at hl5 s3 s4 h3
          refine fx_row_test hrow hn hc h3 s3 rd (hins d hno) (by rw [hL3]; simp) fun G' H' h4 sh sg frr => ?_
          have hL4 : H' L = some (.lst vs.reverse) := sh _ _ hL3
          have rd4 : RepD K G' d ov := rd.mono sg
          have hvl := frs_len h.fr
          have hfl := fws_len st
          have hsm := h.small
          have hwp := wt_pos d
          cases hr : rowI d with
          | none =>
            have e1 : (!rowB d) = true := by simp [rowB, hr]
            rw [e1, if_pos rfl]
            refine ⟨ov, s3, ?_⟩
            refine fx_done hD ((h4.locs (σ' := σ1.set 1 (some ov)) (by rw [List.length_set]; exact hl5) (by rw [List.getElem?_set_ne (by decide)])).less (m' := m - 1) (by omega)) (by omega) rd4 (set1 hl5) hL4 (by rw [← hres, fx_leaf hr]) hvl fun σ' H' z => ⟨m - 1, by omega, z⟩
          | some ys =>
            have e1 : (!rowB d) = false := by simp [rowB, hr]
            have hwr := wt_row hr
            have hyl := wts_len ys
            rw [e1, if_neg Bool.false_ne_true]
            refine ⟨.non, s4, rfl, true, rfl, ?_⟩
            show fxNew K _ σ1 H'
            refine fx_new h4 hL4 s3 rd4 hr hno (by omega) (by omega) (fun he σ' H' G' v l hl' rv s1 => ?_) (fun y r he σ' H' G' v q t l rv hl' => ?_)
            · subst he
              refine fx_done hD (l.less (m' := m - 1) (by omega)) (by omega) rv s1 hl' (by rw [← hres, fx_row hr]; rfl) hvl fun σ' H' z => ⟨m - 1, by omega, z⟩
            · subst he
              have hi : itsD d = y :: r := by unfold itsD; rw [hr]; rfl
              refine ⟨m - 1, by omega, .ev (l.less (by omega)) rv (hsub d y _ hno hr (by simp)) hl' ?_ ?_⟩
              · simp only [fws, fw, hi, List.length_nil, List.drop_succ_cons, List.drop_zero]
                simp only [wts] at hwr
                omega
              · rw [← hres, fx_row hr]
                simp [res, hi, fxDs]
  | @rt G L As st vs d v h rd s1 hne hL hm hres =>
    have hvl := frs_len h.fr
    have hfl := fws_len st
    have hsm := h.small
    obtain ⟨hrb, hlen, hsL, hfL, hnL, hfr, hok, _⟩ := id h
    cases hfr with
    | nil => exact absurd rfl hne
    | @cons t p one ov ps ws As st vs f1 f2 f3 f4 f5 f6 f7 f8 =>
      have hL0 : H L = some (.lst (vs.reverse ++ [.ref t])) := by rw [hL]; simp
      refine fx_cond h.sL hL0 fun z hz => ?_
      have e0 : (!(vs.reverse ++ [V.ref t]).isEmpty) = true := by simp
      rw [e0, if_pos rfl]
      refine ⟨fun σ' H' => ∃ m', m' < m ∧ LHm K c x m' σ' H', fun _ _ z => z, ?_⟩
      have g0 : LH K c x m σ H G L As st vs := ⟨hrb, hlen, hsL, hfL, fun q => hnL (by simp [q]), f8, fun q hq => hok q (by simp [hq]), hsm⟩
      have npL : p ≠ L := fun e => hnL (by simp [e])
      obtain ⟨hq1, ys, hr, hlt, hyl⟩ := hok (one, ps) (by simp)
      have h1 := g0.fresh (o := .lst []) hz
      have hL1 : upd H z (.lst []) L = some (.lst (vs.reverse ++ [.ref t])) := by rw [upd_ne (ne_of_none hL0 hz)]; exact hL0
      have ht1 : upd H z (.lst []) t = some (.tup [ov, .ref p]) := by rw [upd_ne (ne_of_none f1 hz)]; exact f1
      have hp1 : upd H z (.lst []) p = some (.lst ws) := by rw [upd_ne (ne_of_none f2 hz)]; exact f2
      generalize upd H z (.lst []) = H1 at h1 hL1 ht1 hp1
      have h2 := h1.line (o := .lst vs.reverse) hL1
      have htL : t ≠ L := fun e => by subst e; rw [ht1] at hL1; cases hL1
      have ht2 : upd H1 L (.lst vs.reverse) t = some (.tup [ov, .ref p]) := by rw [upd_ne htL]; exact ht1
      have hp2 : upd H1 L (.lst vs.reverse) p = some (.lst ws) := by rw [upd_ne npL]; exact hp1
      refine fx_pop h1.sL hL1 (.inl (.inl ht2)) ?_
      have hl5 : ((σ.set 3 (some ov)).set 4 (some (V.ref p))).length = 5 := by rw [List.length_set, List.length_set]; exact h.len
      have s3 : ((σ.set 3 (some ov)).set 4 (some (V.ref p)))[3]? = some (some ov) := by rw [List.getElem?_set_ne (by decide)]; exact List.getElem?_set_self (by have := h.len; omega)
      have s4 : ((σ.set 3 (some ov)).set 4 (some (V.ref p)))[4]? = some (some (.ref p)) := List.getElem?_set_self (by rw [List.length_set]; have := h.len; omega)
      have s1' : ((σ.set 3 (some ov)).set 4 (some (V.ref p)))[1]? = some (some v) := by rw [List.getElem?_set_ne (by decide), List.getElem?_set_ne (by decide)]; exact s1
      have h3 : LH K c x m ((σ.set 3 (some ov)).set 4 (some (.ref p))) (upd H1 L (.lst vs.reverse)) G L As st vs := h2.locs hl5 (by rw [List.getElem?_set_ne (by decide), List.getElem?_set_ne (by decide)])
      have hL3 : upd H1 L (.lst vs.reverse) L = some (.lst vs.reverse) := upd_same
      generalize (σ.set 3 (some ov)).set 4 (some (V.ref p)) = σ1 at hl5 s3 s4 s1' h3
      have hi : itsD one = ys := by unfold itsD; rw [hr]; rfl
      simp only [fws, fw, hi] at hm hfl
      have hvl' : vs.length = st.length := by simpa using hvl
      have hfl' := fws_len st
      refine fx_row_test hrow hn hc h3 s3 f3 (hins one hq1) (by rw [hL3]; simp) fun G' H' h4 sh sg frr => ?_
      have hL4 : H' L = some (.lst vs.reverse) := sh _ _ hL3
      have hp4 : H' p = some (.lst ws) := sh _ _ hp2
      have fp4 : Free c G' p := frr p (by rw [hp2]; simp) f6
      have hsz : 1000004 < sizeLine := by rw [sizeLine_eq]; decide
      have e1 : (!rowB one) = false := by simp [rowB, hr]
      rw [e1, if_neg Bool.false_ne_true]
      refine ⟨.ref p, s4, rfl, false, rfl, ?_⟩
      show fxMore K _ σ1 H'
      refine fx_more h4 hp4 fp4 f7 npL hL4 s3 s4 s1' (rd.mono sg) (f3.mono sg) (f4.mono sg) hr hq1 hlt hyl (by omega) (fun he σ' H' G' v l hl' rv s1 => ?_) (fun y hy σ' H' G' v t l rv hl' => ?_)
      · refine fx_done hD (l.less (m' := m - 1) (by omega)) (by omega) rv s1 hl' ?_ hvl' fun σ' H' z => ⟨m - 1, by omega, z⟩
        rw [← hres]
        simp only [res, hi]
        rw [List.drop_of_length_le (by omega : ys.length ≤ ps.length + 1)]
        rfl
      · refine ⟨m - 1, by omega, .ev (l.less (by omega)) rv (hsub one y ys hq1 hr (List.mem_of_getElem? hy)) hl' ?_ ?_⟩
        · have := wts_drop ys (ps.length + 1) y hy
          simp only [fws, fw, hi, List.length_append, List.length_cons, List.length_nil, Nat.zero_add]
          omega
        · rw [← hres]
          simp only [res, hi]
          rw [fxDs_drop ys (ps.length + 1) y hy]
          simp
end
theorem fixed_run {K : PySem.W.Frag} {c : C0} {x : D} {σ : St} {G H : Hp} {W : WX} {spR : SpD} {vx : V} (hrow : ∀ (d : D) (Qd : D → List S → Prop) (Xd : XV → List S → Prop), d.isIns = false → Qd (.bl (rowB d)) [.d d] → spR [.d d] Qd Xd) (hins : ∀ d : D, d.noi = true → d.isIns = false) (hn : c.n = 5) (hc : ∀ i, c.ad i = none) {Dx : Ends}
    (hD : ∀ (v : V) (G H : Hp), RB c G H → RepD K G (fxD x) v → Dx.rt v H) (hsub : ∀ (d y : D) (ys : List D), d.noi = true → rowI d = some ys → y ∈ ys → y.noi = true)
    (rb : RB c G H) (hl : σ.length = 5) (h0 : σ[0]? = some (some vx)) (rd : RepD K G x vx) (hno : x.noi = true) (hw : wt x ≤ 1000000) : tFixed K (fxRow K c W spR) Dx σ H := by
  refine ⟨vx, h0, by show 2 ≤ _; exact Nat.le_trans (by decide) mil, fun z hz => ⟨by show 1 ≤ _; exact Nat.le_trans (by decide) mil, fun L hL => ⟨.non, .ref L, rfl, ?_⟩⟩⟩
  obtain ⟨r1, sg⟩ := rb.newT (o := .tup [vx, .non]) hz
  have r2 := r1.upd (o := .lst [.ref z]) (r1.free0 hL)
  have hl2 : ((σ.set 1 (some V.non)).set 2 (some (.ref L))).length = 5 := by rw [List.length_set, List.length_set]; exact hl
  have lh : LH K c x (wt x) ((σ.set 1 (some V.non)).set 2 (some (.ref L))) (upd (upd H z (.tup [vx, .non])) L (.lst [.ref z])) (upd G z (.tup [vx, .non])) L [] [] [] :=
    ⟨r2, hl2, List.getElem?_set_self (by rw [List.length_set]; omega), r1.free0 hL, by simp, .nil, fun q hq => by simp at hq, hw⟩
  have rt : RepD K (upd G z (.tup [vx, .non])) (.tup [x, .non]) (.ref z) := .tup (.inl (.inl upd_same)) (.cons (rd.mono sg) (.cons .non .nil))
  refine ⟨fun m σ H => LHm K c x m σ H, ⟨wt x, .ev lh rt hno (by rw [upd_same]; rfl) (by simp [fws]) rfl⟩, fun m σ' H' h => ?_⟩
  exact fx_step hrow hins hn hc (Dx := { Dx with nx := tRet (tVar 1) Dx }) hD hsub h
section
variable {P : Program} {w : World} {K : PySem.W.Frag} {mg : Str → Option Value} {base : Heap}
/-- the promise of the def that fixes rows -/
def spFix : SpD := fun as Qd _ => ∃ d, as = [.d d] ∧ (d.noi = true ∧ wt d ≤ 1000000) ∧ Qd (fxD d) [.d d]
theorem fn_fixed {x qual : Str} {st : Stmt} {f : Addr} {fd : FuncData} {N ps : List Str} {k : Nat} {spR : SpD} (F : Fun K x qual st f fd) (SC : FnScope N ps (defScope st)) (hN5 : N.length = 5) (hps : ps.length = 1)
    (hrow : ∀ (d : D) (Qd : D → List S → Prop) (Xd : XV → List S → Prop), d.isIns = false → Qd (.bl (rowB d)) [.d d] → spR [.d d] Qd Xd) (hins : ∀ d : D, d.noi = true → d.isIns = false) (hsub : ∀ (d y : D) (ys : List D), d.noi = true → rowI d = some ys → y ∈ ys → y.noi = true)
    (hbody : ∀ (cdv : Value) (A : Around) (outer : List Env) (s : Shared) (H : Hp) (E : XK) (c : C0), Room k (A.deeper (envOfC qual (defScope st) s.heap.objs.size f cdv)) →
      Takes (cxOf (L2.CX P w) P w K mg base N qual (defScope st) f cdv A outer s H E) (WE0 E) → PassesOwn (model P w) (cxOf (L2.CX P w) P w K mg base N qual (defScope st) f cdv A outer s H E).A (cxOf (L2.CX P w) P w K mg base N qual (defScope st) f cdv A outer s H E).env (cxOf (L2.CX P w) P w K mg base N qual (defScope st) f cdv A outer s H E).xe →
      PSs (cxOf (L2.CX P w) P w K mg base N qual (defScope st) f cdv A outer s H E) (defBody st) (tFixed K (fxRow K c (WE0 E) spR))) :
    FnOk P w K mg base (L2.CX P w) (k + 1) f fd ps (spOf K ps.length spFix) := by
  refine F.okX SC (fun vs H Q E h => h.1) (fun cdv A outer s H vs Q E hr h => ?_)
  obtain ⟨hlen, G, as, Qd, Xd, ar, ⟨d, rfl, ⟨hno, hw⟩, hq⟩, hQ, hE⟩ := h
  have tk : Takes (cxOf (L2.CX P w) P w K mg base N qual (defScope st) f cdv A outer s H E) (WE0 E) := takes_of rfl rfl rfl rfl
  obtain ⟨v, hv, rd⟩ := ar.sl 0 _ rfl
  obtain ⟨vx, rfl⟩ : ∃ vx, vs = [vx] := by
    match vs, hlen with
    | [a], _ => exact ⟨a, rfl⟩
    | [], h => rw [hps] at h; cases h
    | _ :: _ :: _, h => rw [hps] at h; simp at h
  have e0 : vx = v := by simpa using hv
  subst e0
  have hc : ∀ i, (⟨H, G, fun _ => none, 5, []⟩ : C0).ad i = none := fun _ => rfl
  refine ⟨_, hbody cdv A outer s H E ⟨H, G, fun _ => none, 5, []⟩ hr tk (passes_of rfl), ?_⟩
  refine fixed_run (c := ⟨H, G, fun _ => none, 5, []⟩) (x := d) (vx := vx) hrow hins rfl hc (fun v' G' H' rb rv => ?_) hsub ⟨ar.gh, fun _ _ e => e, Same.refl _, fun _ e => .inl e, rfl⟩ ?_ ?_ rd hno hw
  · refine hQ (fxD d) [.d d] v' G' H' ⟨⟨rfl, fun i s h => ?_, rb.gh, fun i s a h o _ => ?_, fun i j s t a h _ o _ _ _ => ?_, fun i s h o => ?_⟩, rb.gsub, fun a o e _ => rb.keep a o e, rb.gnew, fun a e => ?_, fun i s h o => ?_, fun i s h o => h⟩ rv hq
    · cases i with
      | zero => cases h; exact ⟨vx, rfl, rd.mono rb.gsub⟩
      | succ i => simp at h
    · cases i with
      | zero => cases h; cases o
      | succ i => simp at h
    · cases i with
      | zero => cases h; cases o
      | succ i => simp at h
    · cases i with
      | zero => cases h; cases o
      | succ i => simp at h
    · cases q : H a with
      | none => exact absurd q e
      | some o => rw [rb.keep a o q]; simp
    · cases i with
      | zero => cases h; cases o
      | succ i => simp at h
  · show (L2.start N [vx]).length = 5
    unfold L2.start
    simp
    omega
  · show (L2.start N [vx])[0]? = _
    rfl
end
end L3

/-! L3: a module's defs put together -/
namespace L3
open PySem PySem.Spec PyProof.Rows L2
/-- t keeps the promise sp -/
def KeepsT (n N : Nat) (sp : SpD) (t : TDS) : Prop := ∀ (as : List S) (Qd : D → List S → Prop) (Xd : XV → List S → Prop), as.length = n → sp as Qd Xd → t (fun x e => Xd x (merge as e)) { nx := fun e => Qd .non (merge as e), rt := fun d e => Qd d (merge as e) } (startE N as)
/-- a def of the module, no defaults -/
structure Dd (K : PySem.W.Frag) (mg : Str → Option Value) (x : Str) (st : Stmt) (ps : List Str) (f : Addr) (fd : FuncData) : Prop where
  fn : Fun K x x st f fd
  mgf : mg x = some (.ref f)
  kp : PySem.W.keepIn K (.ref f) = true
  bi : Binds K fd ps []
section
variable {P : Program} {w : World} {K : PySem.W.Frag} {mg : Str → Option Value} {base : Heap} {x : Str} {st : Stmt} {ps N : List Str} {f : Addr} {fd : FuncData} {k n : Nat} {sp sp' : SpD} {t : TDS}
theorem Dd.ok (D : Dd K mg x st ps f fd) (SC : FnScope N ps (defScope st))
    (hbody : ∀ (cdv : Value) (A : Around) (outer : List Env) (s : Shared) (H : Hp) (E : XK) (c : C0), Room k (A.deeper (envOfC x (defScope st) s.heap.objs.size f cdv)) →
      Takes (cxOf (L2.CX P w) P w K mg base N x (defScope st) f cdv A outer s H E) (WE0 E) → PassesOwn (model P w) (cxOf (L2.CX P w) P w K mg base N x (defScope st) f cdv A outer s H E).A (cxOf (L2.CX P w) P w K mg base N x (defScope st) f cdv A outer s H E).env (cxOf (L2.CX P w) P w K mg base N x (defScope st) f cdv A outer s H E).xe →
      DSs (cxOf (L2.CX P w) P w K mg base N x (defScope st) f cdv A outer s H E) c (WE0 E) (defBody st) t)
    (hsp : KeepsT ps.length N.length sp t) : FnOk P w K mg base (L2.CX P w) (k + 1) f fd ps (spOf K ps.length sp) := fn_ok D.fn SC hbody hsp
theorem Dd.cal_of (D : Dd K mg x st ps f fd) (h : FnOk P w K mg base (L2.CX P w) k f fd ps (spOf K ps.length sp)) : Cal P w K mg base k x ps.length sp [] :=
  ⟨⟨f, fd, ps, [], [], rfl, h, D.mgf, D.kp, D.bi, .nil, fun _ => .nil⟩⟩
theorem Dd.calK_of {ks : List Str} {g : GK} (D : Dd K mg x st ps f fd) (h : FnOk P w K mg base (L2.CX P w) k f fd ps (spOf K ps.length sp)) (hb : KBn K fd ps n ks (fun us ws => g us ws) (fun vs zs => g vs zs)) (hg : GKok g) : CalK P w K mg base k x ps.length n ks g sp :=
  ⟨⟨f, fd, ps, rfl, h, D.mgf, D.kp, hb⟩, hg⟩
theorem Dd.calL_of {sp : SpL} (D : Dd K mg x st ps f fd) (h : FnOk P w K mg base (L2.CX P w) k f fd ps (spOfL K ps.length sp)) : CalL P w K mg base k x ps.length sp :=
  ⟨⟨f, fd, ps, rfl, h, D.mgf, D.kp, D.bi⟩⟩
/-- a promise that asks for more -/
theorem spOf_imp {vs : List V} {H : Hp} {Q : VK} {E : XK} (i : ∀ as Qd Xd, sp as Qd Xd → sp' as Qd Xd) (h : spOf K n sp vs H Q E) : spOf K n sp' vs H Q E := by
  obtain ⟨hl, G, as, Qd, Xd, ar, hs, q1, q2⟩ := h
  exact ⟨hl, G, as, Qd, Xd, ar, i _ _ _ hs, q1, q2⟩
theorem fn_imp (F : FnOk P w K mg base (L2.CX P w) k f fd ps (spOf K n sp')) (i : ∀ as Qd Xd, sp as Qd Xd → sp' as Qd Xd) : FnOk P w K mg base (L2.CX P w) k f fd ps (spOf K n sp) :=
  ⟨fun vs H Q E h => F.len vs H Q E (spOf_imp i h), fun A outer s H args us vs Q E hr h1 h2 h3 h4 => F.run A outer s H args us vs Q E hr h1 h2 h3 (spOf_imp i h4)⟩
/-- a promise that nobody can ask for -/
theorem fn_none (i : ∀ as Qd Xd, as.length = ps.length → ¬ sp as Qd Xd) : FnOk P w K mg base (L2.CX P w) k f fd ps (spOf K ps.length sp) := by
  have no : ∀ {vs : List V} {H : Hp} {Q : VK} {E : XK}, spOf K ps.length sp vs H Q E → False := fun h => by
    obtain ⟨hl, G, as, Qd, Xd, ar, hs, _⟩ := h
    exact i as Qd Xd (by rw [← ar.len]; exact hl) hs
  exact ⟨fun vs H Q E h => (no h).elim, fun A outer s H args us vs Q E hr h1 h2 h3 h4 => (no h4).elim⟩
theorem dd_mk {h : Heap} {oc : Value} {od an : Option Addr} {osl : Array (Option Value)} {kV doc pm cdv ct : Value} (X : K.In h) (G : h.Ns mainGlobals mg) (a : PySem.W.nsIn K mainGlobals x = some (some (.ref f)))
    (l : K.lookup f = some ⟨oc, od, .func (PySem.W.fnOf x x (defArgs st) (defBody st) (defScope st) .none kV doc pm an cdv ct), osl⟩) (c : PySem.W.codeIn K cdv x = true) (kp : PySem.W.keepIn K (.ref f) = true)
    (hb : ∀ us : List Value, us.length = ps.length → bindArgs (PySem.W.fnOf x x (defArgs st) (defBody st) (defScope st) .none kV doc pm an cdv ct) ⟨us, []⟩ = pure (ps.zip us)) :
    Dd K mg x st ps f (PySem.W.fnOf x x (defArgs st) (defBody st) (defScope st) .none kV doc pm an cdv ct) :=
  ⟨fun_mk l c kp, PySem.W.mg_of X G a, kp, Binds.all hb⟩
end
/-- f(k = v): the parameters in their order -/
def gApp : GK := fun a b => a ++ b
theorem gApp_ok : GKok gApp := ⟨fun h1 h2 => RepDs.append h1 h2⟩
section
variable {K : PySem.W.Frag} {mg : Str → Option Value} {x : Str}
theorem glo_str {z : Str} {t : Tok} (h : mg x = some (.str z t)) : Glo K mg x (.str z) := ⟨⟨_, .str z, h, ⟨t, rfl⟩, fun _ => .str z⟩⟩
theorem glo_int {i : Int} {t : Tok} (h : mg x = some (.int i t)) : Glo K mg x (.int i) := ⟨⟨_, .int i, h, ⟨t, rfl⟩, fun _ => .int i⟩⟩
theorem reps_strs2 {G : Hp} : ∀ zs : List Str, RepDs K G (zs.map D.str) (zs.map V.str)
  | [] => .nil
  | _ :: r => .cons (.str _) (reps_strs2 r)
theorem glo_strs {zs : List Str} {p : Addr} {its : Array Value} {n : Nat} {sl : Array (Option Value)} {dd : Option Addr} (h : mg x = some (.ref p)) (l : K.lookup p = some ⟨.type "tuple", dd, .seq its n, sl⟩) (v : Vals (zs.map V.str) its.toList) (hl : zs.length ≤ 1000) : Glo K mg x (.tup (zs.map D.str)) :=
  ⟨⟨_, .ref p, h, rfl, fun _ => .tup (.inr ⟨_, its, n, l, rfl, rfl, by
    have e := v.length
    rw [List.length_map] at e
    have e2 : its.toList.length = its.size := Array.length_toList
    have := mil
    omega, v⟩) (reps_strs2 zs)⟩⟩
end
/-- the law's promise -/
def spLawD : SpD := fun as Qd _ => ∃ ns : List Int, as = [.d (scrD (ns.map D.int))] ∧ ns.length ≤ 63 ∧ Qd (.bl true) as
theorem law_sp {K : PySem.W.Frag} {H : Hp} {a : Addr} {ns : List Int} (hl : ns.length ≤ 63) (hS : SqL K H a (ns.map V.int)) : spOf K 1 spLawD [.ref a] H (fun v _ => v = .bl true) fun _ _ _ => False := by
  refine ⟨rfl, H, [.d (scrD (ns.map D.int))], fun d _ => d = .bl true, fun _ _ => False, ?_, ⟨ns, rfl, hl, rfl⟩, ?_, fun _ _ _ _ _ _ _ _ z => z.elim⟩
  · refine ⟨rfl, fun i s h => ?_, Same.refl _, fun i s a h o => ?_, fun i j s t a h _ o => ?_, fun i s h o => ?_⟩
    · cases i with
      | zero => cases h; exact ⟨.ref a, rfl, .scr hS (reps_ints ns)⟩
      | succ i => simp at h
    all_goals
      cases i with
      | zero => cases h; cases o
      | succ i => simp at h
  · rintro d as' v G' H' _ rv rfl
    cases rv
    rfl
theorem walk {l : PySem.W.OpenLaw} {q : Program} {loose : List Str} {XP : (Str → Option Value) → Heap → Prop} {YP : World → Heap → Prop} {d : DefRec} {K : Params → PySem.W.Frag} {k : Nat} (hn : l.most = some 63) (hdf : d.params.defaults = []) (hr : Room k callerA)
    (hY : ∀ (w : World) (h : Heap), YP w h → (K w.params).In h)
    (F : ∀ (w : World) (mg : Str → Option Value) (fa : Addr) (h : Heap), (K w.params).In h → h.Ns mainGlobals mg → mg d.name = some (.ref fa) →
      ∃ fd : FuncData, (∀ (s : Shared) (u : Value), BindsTo s fd ⟨[u], []⟩ [("script", u)]) ∧ ∀ base : Heap, (K w.params).In base → base.Ns mainGlobals mg → FnOk l.prog w (K w.params) mg base (L2.CX l.prog w) k fa fd ["script"] (spOf (K w.params) 1 spLawD)) :
    PySem.W.WalkO q loose XP YP l.row.toRowW d [] (fun f vs => PySem.call f vs) :=
  L2.walk_of (n := 63) (k := k) (x := "script") (CX := fun w => L2.CX l.prog w) (sp := fun w => spOf (K w.params) 1 spLawD) hn (by decide) hdf hr hY F (fun _ H a ns hl _ hS => law_sp hl hS) fun w H s e s' h => by
    obtain ⟨_, _, _, _, _, _, _, _, _, _, _, _, z⟩ := h
    exact z
end L3

/-! X1: an exception's __init__ that says super().__init__(..) -/
namespace X1
open PySem PySem.Spec PyProof.Rows L2
/-- such a def's context -/
def inCx (P : Program) (w : World) (K : PySem.W.Frag) (mg : Str → Option Value) (base : Heap) (N : List Str) (qual : Str) (scope : Scope) (f cda cc : Addr) (A : Around) (outer : List Env) (s : Shared) (H : Hp) (E : XK) : Cx where
  prog := P
  w := w
  K := K
  mg := mg
  base := base
  A := A.deeper (PySem.W.ksEnv qual scope s.heap.objs.size f (.ref cda) cc)
  N := N
  s_0 := s
  H_0 := H
  env := PySem.W.ksEnv qual scope s.heap.objs.size f (.ref cda) cc
  outer := outer
  stack := PySem.W.ksEnv qual scope s.heap.objs.size f (.ref cda) cc :: outer
  ex := []
  calm := true
  fn := fun _ => false
  pn := []
  xe := fun e s' => wpAny (model P w) (A.deeper (PySem.W.ksEnv qual scope s.heap.objs.size f (.ref cda) cc)) (leaving (PySem.W.ksEnv qual scope s.heap.objs.size f (.ref cda) cc) e) (fun _ s'' => L2.CX P w outer H s E e s'') (fun e' s'' => L2.CX P w outer H s E e' s'') s'
/-- its names -/
structure InS (ps : List Str) (scope : Scope) : Prop where
  kind : scope.kind = .function
  co : scope.isCoroutine = false
  gen : scope.isGenerator = false
  nd : ps.Nodup
  par : ∀ x ∈ ps, scope.names.lookup x = some .local
  nocell : ∀ y ∈ scope.names, y.2 ≠ .cell
  free : ∀ y ∈ scope.names, y.2 = .free → y.1 = "__class__"
  sup : scope.names.lookup ("super" : Str) = some .globalImplicit
  cls : scope.names.lookup ("__class__" : Str) = some .free
theorem keys_lookup : ∀ {l : List (Str × Value)} {y : Str} {u : Value}, (l.map (·.1)).Nodup → (y, u) ∈ l → l.lookup y = some u
  | [], _, _, _, h => by cases h
  | (a, b) :: r, y, u, nd, h => by
    rw [List.map_cons, List.nodup_cons] at nd
    rcases List.mem_cons.mp h with e | h
    · cases e; simp [List.lookup]
    · have hm : y ∈ r.map (·.1) := List.mem_map.mpr ⟨(y, u), h, rfl⟩
      have ne : y ≠ a := fun z => nd.1 (z ▸ hm)
      have e0 : (y == a) = false := by simpa using ne
      simp only [List.lookup, e0]
      exact keys_lookup nd.2 h
theorem zip_keys : ∀ (ps : List Str) (us : List Value), ((ps.zip us).map (·.1)).Sublist ps
  | [], _ => by simp
  | _ :: _, [] => by simp
  | p :: ps, u :: us => by simpa using (zip_keys ps us).cons₂ p
theorem rev_lookup {ps : List Str} {us : List Value} {i : Nat} {y : Str} {u : Value} (nd : ps.Nodup) (hp : ps[i]? = some y) (hu : us[i]? = some u) : (ps.zip us).reverse.lookup y = some u := by
  refine keys_lookup ?_ ?_
  · rw [List.map_reverse]
    refine (List.reverse_perm _).nodup_iff.mpr ?_
    exact nd.sublist (zip_keys ps us)
  · rw [List.mem_reverse, List.mem_iff_getElem?]
    exact ⟨i, by rw [List.getElem?_zip_eq_some]; exact ⟨hp, hu⟩⟩
section
variable {P : Program} {w : World} {K : PySem.W.Frag} {mg : Str → Option Value} {base : Heap} {ps : List Str} {qual : Str} {scope : Scope} {f cda cc : Addr} {A : Around} {outer : List Env} {s : Shared} {H : Hp} {E : XK} {us : List Value} {vs : List V}
theorem in_start {h₁ : Heap} {tk : Nat} {v0 : Value} (S : InS ps scope) (hcc : ∃ oc, K.lookup cc = some oc ∧ oc.data = .cell (some v0)) (hd : A.handled = none) (e0 : Env0 P w K mg base A outer s H) (hl : vs.length = ps.length) (r : Vals vs us)
    (hns : h₁.Ns s.heap.objs.size fun y => (ps.zip us).reverse.lookup y) (kp : ∀ b o, s.heap.get? b = some o → h₁.get? b = some o) :
    Inv (inCx P w K mg base ps qual scope f cda cc A outer s H E) [] (vs.map some) H { s with heap := h₁, toks := tk } := by
  have KX : K.In s.heap := e0.mod.kin.keeps fun b o e => (e0.bs b o e).1
  obtain ⟨oc, hcl, hcd⟩ := hcc
  have noA : ∀ b : Addr, b ∉ (inCx P w K mg base ps qual scope f cda cc A outer s H E).ex := fun b z => absurd (show b ∈ ([] : List Addr) from z) (by simp)
  have look1 : ∀ {y : Str} {c : Addr}, (inCx P w K mg base ps qual scope f cda cc A outer s H E).env.cells.lookup y = some c → y = "__class__" ∧ c = cc := fun {y c} e => by
    have e' : ([("__class__", cc)] : List (Str × Addr)).lookup y = some c := e
    rw [List.lookup_cons] at e'
    split at e'
    · rename_i q
      exact ⟨by simpa using q, (Option.some.inj e').symm⟩
    · cases e'
  have cK : h₁.IsCell cc (some v0) := ⟨oc, kp _ _ (KX _ _ hcl), hcd⟩
  have nocel : ∀ {y : Str}, scope.names.lookup y = some .cell → False := fun {y} k => S.nocell _ (PySem.mem_of_lookup k) rfl
  have hbase : base.get? cc = some oc := e0.mod.kin _ _ hcl
  refine ⟨⟨e0.mod, S.kind, rfl, rfl, Nat.le_refl _, fun y z c e1 e2 => by rw [(look1 e1).1, (look1 e2).1], fun y hy => ?_, fun y c z _ => ?_, fun _ => hd, Around.frames_deeper e0.frames, .inr ⟨rfl, rfl⟩, fun b z => absurd z (noA b), e0.bs, e0.bsz, fun b _ _ => noA b, fun b z => absurd z (noA b), e0.funs, e0.frf⟩,
    rfl, e0.bare, Un.kept kp, ⟨_, hns, fun i y v e1 e2 e3 => ?_⟩, fun y c e => ?_, e0.hok.fresh (Nat.le_refl _), fun y c e => ?_, fun q hq => absurd (show q ∈ ([] : List (Addr × Obj)) ++ [] from hq) (by simp), e0.hok.kept kp, ?_⟩
  · have hy : scope.names.lookup y = some .cell ∨ scope.names.lookup y = some .free := hy
    rcases hy with hy | hy
    · exact (nocel hy).elim
    · refine ⟨cc, ?_⟩
      have e := S.free _ (PySem.mem_of_lookup hy) rfl
      show ([("__class__", cc)] : List (Str × Addr)).lookup y = some cc
      have e' : y = "__class__" := e
      rw [e']
      simp [List.lookup]
  · have z : false = true := z
    cases z
  · have e2 : (vs.map some)[i]? = some (some v) := e2
    rw [List.getElem?_map] at e2
    have ev : vs[i]? = some v := by
      cases q : vs[i]? with
      | none => rw [q] at e2; cases e2
      | some x => rw [q] at e2; cases e2; rfl
    obtain ⟨u, hu, rv⟩ := r.get ev
    have hp : ps[i]? = some y := e1
    exact ⟨u, rv, .inl ⟨S.par y (List.mem_of_getElem? hp), rev_lookup S.nd hp hu⟩⟩
  · obtain ⟨_, rfl⟩ := look1 e
    exact ⟨_, cK⟩
  · obtain ⟨_, rfl⟩ := look1 e
    exact (e0.bs _ _ hbase).2
  · show (vs.map some).length = ps.length
    rw [List.length_map]
    exact hl
end
end X1

/-! X1: the run of such a def -/
namespace PySem
namespace XMW
open PySem.W PySem.Calls PyProof.Rows PySem.HandSPX
variable {prog : Program} {w : World} {A : Around} {E : Value → Shared → Prop} {hp : Heap} {g : Array GenState} {d : Drawn} {t : Nat} {os : OsState}
theorem call_mw {nm q : Str} {C N : Addr} {bs bm : List Value} {hdct : Bool} {sn : List Str} {sub : List Value} {ab : Bool} {col : Option Bool} {dd : Option Addr} {k0 k1 k2 k3 k5 : Option Value} {u e t0 : Addr} {dv : Option Addr} {rest : List Value} {Q : Value → Shared → Prop}
    (hC : hp.get? C = some (excClassObj nm q C N bs bm hdct sn sub ab col dd k0 k1 k2 k3 k5 "ValueError.__new__")) (he : hp.get? e = some ({ cls := .ref C, dict := dv, data := .fields #[.ref t0, .none, .none, .none, .bool false, .none] } : Obj)) (hu : hp.get? u = some (W.kxs_mw "ValueError.__init__" e)) (hz : rest.length ≤ sizeLine)
    (hq : ∀ h', (∀ b o, b ≠ e → hp.get? b = some o → h'.get? b = some o) → h'.get? e = some ({ cls := .ref C, dict := dv, data := .fields #[.ref hp.objs.size, .none, .none, .none, .bool false, .none] } : Obj) → Q .none ⟨h', g, d, t, os⟩) :
    wpAny (model prog w) A (call (.ref u) rest) Q E ⟨hp, g, d, t, os⟩ := by
  refine wpAny_call (codeAny_of_tree ?_)
  show wpAny _ A.in1 (callAny (.ref u) ⟨rest, []⟩) _ _ _
  simp only [callAny]
  refine wpAny_bind (wpAny_load hu ?_)
  simp only [W.kxs_mw, show (Value.type "method-wrapper" == Value.type "method" || Value.type "method-wrapper" == Value.type "builtin_function_or_method" || Value.type "method-wrapper" == Value.type "method-wrapper") = true by decide, if_true]
  refine W.KFB.if_so (by decide) ?_
  refine wpAny_bind (W.check_bound_init F.excBase_ValueError.toExcCallFacts hC he rfl ?_)
  refine wpAny_bind (wpAny_pure (wpAny_pure ?_))
  refine ⟨plainId_quiet F.excBase_ValueError.init.plain _, codeAny_builtin F.excBase_ValueError.initEntry ?_⟩
  exact W.exc_init_tree (cls := .ref C) (t0 := t0) (dv := dv) (c2 := .none) (c3 := .none) (b4 := .bool false) he hz fun h' k1 k2 _ => hq h' k1 k2
end XMW
end PySem
namespace X1
open PySem PySem.Spec PyProof.Rows L2
/-- the classes that D's __init__ serves -/
structure SupC (K : PySem.W.Frag) (D C : Addr) : Prop where
  ox : OexC K C
  sub : PySem.W.mroIn K C (.ref D) = some true
  up : PySem.W.ks_superIn K C D "__init__" = some (some (.builtin "ValueError.__init__"))
  ve : PySem.W.subIn K (.ref C) (.type "ValueError") = some true
/-- the def and what stands about it in the written part -/
structure SupF (P : Program) (K : PySem.W.Frag) (mg : Str → Option Value) (qual : Str) (params : Arguments) (body : List Stmt) (scope : Scope) (ps : List Str) (f : Addr) (fd : FuncData) (cda cc D : Addr) : Prop where
  fn : ∃ (oc : Value) (od an : Option Addr) (kV doc pm ct : Value) (osl : Array (Option Value)), fd = PySem.W.ksFn "__init__" qual params body scope .none kV doc pm an (.ref cda) ct cc ∧ K.lookup f = some ⟨oc, od, .func fd, osl⟩
  code : PySem.W.codeIn K (.ref cda) qual = true
  file : ∃ (ccl : Value) (cdd : Option Addr) (vs : Array Value) (ccs : Array (Option Value)) (fl : Str) (tf : Tok), K.lookup cda = some ⟨ccl, cdd, .fields vs, ccs⟩ ∧ vs[2]? = some (.str fl tf) ∧ ((P.main.file : Str) == fl) = true
  cell : ∃ (cl : Value) (cld : Option Addr) (csl : Array (Option Value)), K.lookup cc = some ⟨cl, cld, .cell (some (.ref D)), csl⟩
  clsD : ∃ cd, PySem.W.clsIn K D = some cd
  sup : mg "super" = none
  top : (P.main.scope.names.lookup ("super" : Str)).isSome = false
  opq : PySem.W.nsIn K PySem.cStatics "thirdparty.any" = some none
  head : ∃ ar : Arg, (params.posonlyargs ++ params.args).head? = some ar ∧ ps[0]? = some ar.arg
theorem init_fn {P : Program} {w : World} {K : PySem.W.Frag} {mg : Str → Option Value} {base : Heap} {k : Nat} {qual : Str} {params : Arguments} {scope : Scope} {ps : List Str} {f cda cc D : Addr} {fd : FuncData} {e : Expr} {es : List Expr} {rest : List Stmt} {p0 p1 p2 p3 p4 : Pos}
    {ta : TA} {t : TS} (F : SupF P K mg qual params (.Expr (.Call (.Attribute (.Call (.Name "super" p0) [] [] p1) "__init__" p2) (e :: es) [] p3) p4 :: rest) scope ps f fd cda cc D) (S : InS ps scope)
    (ha : ∀ (A : Around) (outer : List Env) (s : Shared) (H : Hp) (E : XK), PA (inCx P w K mg base ps qual scope f cda cc A outer s H E) (e :: es) ta)
    (ht : ∀ (A : Around) (outer : List Env) (s : Shared) (H : Hp) (E : XK), PSs (inCx P w K mg base ps qual scope f cda cc A outer s H E) rest t)
    {pl : Env → Sem Bool} (hcall : ∀ env : Env, eval (.Call (.Attribute (.Call (.Name "super" p0) [] [] p1) "__init__" p2) (e :: es) [] p3) env = (do
      let ov ← attributeBase (.Call (.Name "super" p0) [] [] p1) "__init__" env (eval (.Call (.Name "super" p0) [] [] p1) env)
      standAt p2.atName
      let (f, first) ← holding [ov] (getMethod ov "__init__" (pl env))
      callWith p3 f first (backTo p3 (starEach (e :: es) env)) [])) (he : ∀ env : Env, starEach (e :: es) env = (false, eval e env) :: starEach es env) (hpl : ∀ env : Env, (backTo p3 (starEach es env)).any (·.1) = false)
    (hsw : ∀ env : Env, swapsWith (.Call (.Attribute (.Call (.Name "super" p0) [] [] p1) "__init__" p2) (e :: es) [] p3) none p4.line env = pure false := by intro _; rfl) :
    FnOk P w K mg base (L2.CX P w) (k + 1) f fd ps (fun vs H Q E => vs.length = ps.length ∧ ∃ a C : Addr, vs[0]? = some (.ref a) ∧ H a = some (exo a C none) ∧ SupC K D C ∧ ta (vs.map some) H fun ws H1 => ws.length ≤ 1000 ∧ H1 a = some (exo a C none) ∧ t { nx := fun _ H' => Q .non H', rt := Q } (vs.map some) H1) := by
  obtain ⟨oc, od, an, kV, doc, pm, ct, osl, rfl, lk⟩ := F.fn
  obtain ⟨ccl, cdd, cvs, ccs, fl, tf, lcda, hvs, hfile⟩ := F.file
  obtain ⟨cl, cld, csl, lcell⟩ := F.cell
  obtain ⟨cdD, hclsD⟩ := F.clsD
  obtain ⟨ar, hhead, hps0⟩ := F.head
  refine ⟨fun vs H Q E h => h.1, fun A outer s H args us vs Q E hr e0 hb rv h => ?_⟩
  obtain ⟨hl, a, C, hv0, hHa, SC, h⟩ := h
  obtain ⟨u0, hu0, rv0⟩ := rv.get hv0
  obtain rfl : u0 = Value.ref a := rv0
  have KX : K.In s.heap := e0.mod.kin.keeps fun b o z => (e0.bs b o z).1
  have lim : s.heap.NoLimit := e0.mod.nolimit.keeps fun b o z => (e0.bs b o z).1
  refine PySem.ks_codeAny_call_defAt (fd := PySem.W.ksFn "__init__" qual params _ scope .none kV doc pm an (.ref cda) ct cc) (binds := ps.zip us) hr.depth (KX _ _ lk) rfl lim (PySem.W.codeRec_of KX F.code) rfl hb S.nocell (fun x hx => S.par x.1 (List.of_mem_zip hx).1) (fun h₁ hns kp => ?_) S.co S.gen S.kind
  have I : Inv (inCx P w K mg base ps qual scope f cda cc A outer s H E) [] (vs.map some) H { s with heap := h₁, toks := s.toks + (ps.zip us).length } := in_start S ⟨_, lcell, rfl⟩ hr.hd e0 hl rv hns kp
  have hint : interactive (inCx P w K mg base ps qual scope f cda cc A outer s H E).env = false := by
    unfold interactive
    show (scope.kind == _ && _) = _
    rw [S.kind]
    rfl
  have KX1 : K.In h₁ := fun b o z => kp _ _ (KX _ _ z)
  have bs : bootBuiltins "super" = some (.type "super") := by decide +kernel
  obtain ⟨mb, hb1, hb2⟩ := I.mod.blt
  obtain ⟨oD, hD1, hD2⟩ : ∃ oD, h₁.get? D = some oD ∧ oD.data = .cls cdD := by
    unfold PySem.W.clsIn at hclsD
    split at hclsD
    · rename_i c d cd' sl ho
      cases hclsD
      exact ⟨_, KX1 _ _ ho, rfl⟩
    · cases hclsD
  show PySem.wpAt (model P w) _ (.func _ (inCx P w K mg base ps qual scope f cda cc A outer s H E).env) (execs _ (inCx P w K mg base ps qual scope f cda cc A outer s H E).env) _ _ _
  refine PySem.ks_wpAt_execs_cons (PySem.ks_wpAt_Expr_any (PySem.ks_wpAt_MethodCall (PySem.ks_wpAt_super_base S.sup S.cls rfl rfl (kp _ _ (KX _ _ lk)) rfl hhead rfl (KX1 _ _ lcda) rfl hvs hfile F.top ?_) (hcall _)) hint (hsw _))
  refine PySem.W.ks_loadName_global S.kind S.sup (Calls.loadGlobal_builtin (I.mod.glob.keeps I.bk) F.sup (hb1.keeps I.bk) ((hb2 _ (by decide)).trans bs) ⟨rfl, ?_⟩)
  refine wpAny_loadName_free S.kind S.cls rfl ⟨_, KX1 _ _ lcell, rfl⟩ ?_
  refine wpAny_loadName_local S.kind (S.par _ (List.mem_of_getElem? hps0)) hns (rev_lookup S.nd hps0 hu0) ?_
  refine PySem.ks_wpAny_isType_cls hD1 hD2 ⟨rfl, ?_⟩
  obtain ⟨t1, hoa⟩ := exo_at I.hok hHa
  obtain ⟨nm, q, NC, bs', bm, sn, sub, ab, col, dd, k0, k1, k2, k3, k5, hC, hbm⟩ := SC.ox.cls
  have neC : a ≠ C := fun z => by
    have := (e0.bs _ _ (e0.mod.kin _ _ hC)).2
    rw [← z, hHa] at this
    cases this
  refine PySem.ks_wpAny_call_super hD1 hD2 hoa rfl (fun c z => nomatch z) (PySem.W.looks_mroIn KX1 SC.sub) (fun h2 e2 kp2 => ?_)
  have I2 : Inv (inCx P w K mg base ps qual scope f cda cc A outer s H E) [] (vs.map some) H { s with heap := h2, toks := s.toks + (ps.zip us).length } := I.kept kp2
  have KX2 : K.In h2 := fun b o z => kp2 _ _ (KX1 _ _ z)
  have hcl : PySem.W.clsIn K C = some { name := nm, bases := bs', mro := .ref C :: bm, ns := NC, qualname := q, hasDict := true, slotNames := sn, subclasses := sub, abstract := ab, collection := col, hasDel := false } := by
    unfold PySem.W.clsIn
    rw [hC]
  have hup := SC.up
  unfold PySem.W.ks_superIn at hup
  rw [hcl] at hup
  have ia : PySem.W.InstAt h2 a { cls := .ref C, dict := none, data := .fields #[.ref t1, .none, .none, .none, .bool false, .none] } C none := ⟨kp2 _ _ hoa, rfl, rfl, trivial⟩
  refine PySem.W.kxs_getMethod PySem.W.kxs_ValueError e2 (PySem.W.looks_opaque KX2 F.opq) (fun A Q E s k q => wpAny_bind ((PySem.W.looks_clsIn KX2 hcl) A _ E s k (wpAny_pure q))) rfl KX2 hup (ia.type.andThen (PySem.W.looks_subIn KX2 SC.ve)) neC rfl ?_
  have kp3 : ∀ b o, h2.get? b = some o → (h2.push (PySem.W.kxs_mw "ValueError.__init__" a)).get? b = some o := fun b o z => Heap.get?_push_of_some _ z
  have I3 : Inv (inCx P w K mg base ps qual scope f cda cc A outer s H E) [] (vs.map some) H { s with heap := h2.push (PySem.W.kxs_mw "ValueError.__init__" a), toks := s.toks + (ps.zip us).length + 1 } := I2.kept kp3
  have I4 : Inv (inCx P w K mg base ps qual scope f cda cc A outer s H E) [(h2.objs.size, PySem.W.kxs_mw "ValueError.__init__" a)] (vs.map some) H { s with heap := h2.push (PySem.W.kxs_mw "ValueError.__init__" a), toks := s.toks + (ps.zip us).length + 1 } := I3.pins_of fun p hp => by
    obtain rfl := List.mem_singleton.mp hp
    exact ⟨Heap.get?_push_size _ rfl, I2.hok.fresh (Nat.le_refl _), Nat.ne_of_gt I2.lt, I2.nofs (Nat.le_refl _), fun v z => nomatch z⟩
  show wpAny _ _ (callWith p3 (.ref h2.objs.size) [] (backTo p3 (starEach (e :: es) (inCx P w K mg base ps qual scope f cda cc A outer s H E).env)) []) _ _ _
  have hrun := (ha A outer s H E).run p3 _ _ _ _ _ I4 h
  rw [he] at hrun ⊢
  refine PySem.W.kxs_callWith (i := "ValueError.__init__") (x := a) (by show (false || (backTo p3 (starEach es _)).any (·.1)) = false; rw [hpl]; rfl) ?_
  refine Calls.evalArgs_plain (wpAny_mono hrun (fun ws s1 hw => ?_) fun _ _ z => z)
  obtain ⟨vs1, H1, J, rv1, hlen, hH1, hq⟩ := hw
  have hpin := (J.pin (h2.objs.size, PySem.W.kxs_mw "ValueError.__init__" a) (List.mem_append_right _ (List.mem_singleton.mpr rfl))).1
  refine ⟨hpin, ?_⟩
  obtain ⟨t4, hoa4⟩ := exo_at J.hok hH1
  obtain ⟨hp, g4, d4, tk4, os4⟩ := s1
  have hws : ws.length ≤ sizeLine := by
    have := rv1.length
    rw [sizeLine_eq]
    omega
  refine PySem.XMW.call_mw (J.kIn _ _ hC) hoa4 hpin hws (fun h5 k5 ex5 => ?_)
  have J5 := J.write (t' := tk4) (x := a) (e := a) (o := exo a C none) (by rw [hH1]; exact True.intro) (.inl rfl) k5 ⟨_, ex5⟩ (exo_ok ex5)
  have eu : upd H1 a (exo a C none) = H1 := by
    funext b
    by_cases hb : b = a
    · rw [hb, upd_same, hH1]
    · rw [upd_ne hb]
  rw [eu] at J5
  refine wpAt_of_wpAny (wpAny_mono ((ht A outer s H E).run _ _ _ _ _ J5 hq) (fun fl s' hs => ?_) fun _ _ z => z)
  cases fl with
  | ret u =>
    obtain ⟨v, σ', H', J6, rv6, q6⟩ := hs
    exact ⟨v, H', J6.os, J6.bare, J6.base, J6.hok, rv6, q6⟩
  | next =>
    obtain ⟨σ', H', J6, q6⟩ := hs
    exact ⟨.non, H', J6.os, J6.bare, J6.base, J6.hok, rfl, q6⟩
  | brk =>
    obtain ⟨_, _, _, z⟩ := hs
    exact z.elim
  | cont =>
    obtain ⟨_, _, _, z⟩ := hs
    exact z.elim
end X1

/-! X1: exceptions of one field and of two -/
namespace X1
open PySem PySem.Spec PyProof.Rows L2
section
variable {P : Program} {w : World} {K : PySem.W.Frag} {mg : Str → Option Value} {base : Heap} {k : Nat} {qual : Str} {params : Arguments} {scope : Scope} {f cda cc D : Addr} {fd : FuncData} {p0 p1 p2 p3 p4 p5 p6 p7 p8 p9 q5 q6 q7 q8 q9 : Pos}
/-- one field: def __init__(self, x): super().__init__(x); self.f = x -/
def sp1 (K : PySem.W.Frag) (D : Addr) (fn : Str) : Sp := fun vs H Q _ => ∃ (a C : Addr) (y : V), vs = [.ref a, y] ∧ H a = some (exo a C none) ∧ SupC K D C ∧ PySem.W.findIn K (.ref C) fn = some none ∧
  ∀ dx, H dx = none → dx ≠ a → Q .non (upd (upd H dx (exd dx [(fn, y)])) a (exo a C (some dx)))
theorem ok_init1 {sn x fn : Str} (F : SupF P K mg qual params [.Expr (.Call (.Attribute (.Call (.Name "super" p0) [] [] p1) "__init__" p2) [.Name x p3] [] p4) p5, .Assign [.Attribute (.Name sn p6) fn p7] (.Name x p8) p9] scope [sn, x] f fd cda cc D) (S : InS [sn, x] scope)
    (d1 : (sn == ("__debug__" : Str)) = false) (d2 : (sn == ("__classdict__" : Str)) = false) (d3 : (x == ("__debug__" : Str)) = false) (d4 : (x == ("__classdict__" : Str)) = false)
    {pl : Env → Sem Bool} (hcall : ∀ env : Env, eval (.Call (.Attribute (.Call (.Name "super" p0) [] [] p1) "__init__" p2) [.Name x p3] [] p4) env = (do
      let ov ← attributeBase (.Call (.Name "super" p0) [] [] p1) "__init__" env (eval (.Call (.Name "super" p0) [] [] p1) env)
      standAt p2.atName
      let (f, first) ← holding [ov] (getMethod ov "__init__" (pl env))
      callWith p4 f first (backTo p4 (starEach [.Name x p3] env)) [])) :
    FnOk P w K mg base (L2.CX P w) (k + 1) f fd [sn, x] (sp1 K D fn) := by
  have vx : ∀ {A : Around} {outer : List Env} {s : Shared} {H : Hp} {E : XK}, Vis (inCx P w K mg base [sn, x] qual scope f cda cc A outer s H E).env.scope x := fun {A outer s H E} => .inl (S.par _ (by simp))
  have vs0 : ∀ {A : Around} {outer : List Env} {s : Shared} {H : Hp} {E : XK}, Vis (inCx P w K mg base [sn, x] qual scope f cda cc A outer s H E).env.scope sn := fun {A outer s H E} => .inl (S.par _ (by simp))
  have base_ := init_fn (w := w) (base := base) (k := k) (ta := tCons (tVar 1) tNil) (t := tSeq (tOst K fn (tVar 0) (tVar 1)) tNext) F S (fun A outer s H E => pa_cons (pe_var (i := 1) rfl vx d3 d4) pa_nil)
    (fun A outer s H E => pss_cons (ps_ost (pe_var (i := 0) rfl vs0 d1 d2) (pe_var (i := 1) rfl vx d3 d4)) pss_nil) hcall (fun _ => rfl) (fun _ => rfl)
  refine base_.imp fun vs H Q E h => ?_
  obtain ⟨a, C, y, rfl, hH, SC, hno, hq⟩ := h
  refine ⟨rfl, a, C, rfl, hH, SC, y, rfl, by simp, hH, y, rfl, .ref a, rfl, a, C, rfl, SC.ox, hno, .inl ⟨hH, fun dx h1 h2 => hq dx h1 h2⟩⟩
/-- two fields -/
def sp2 (K : PySem.W.Frag) (D : Addr) (fn gn : Str) : Sp := fun vs H Q _ => ∃ (a C : Addr) (y z : V), vs = [.ref a, y, z] ∧ H a = some (exo a C none) ∧ SupC K D C ∧ PySem.W.findIn K (.ref C) fn = some none ∧ PySem.W.findIn K (.ref C) gn = some none ∧
  ∀ dx, H dx = none → dx ≠ a → Q .non (upd (upd H a (exo a C (some dx))) dx (exd dx [(gn, z), (fn, y)]))
theorem ok_init2 {sn x y fn gn : Str} (F : SupF P K mg qual params [.Expr (.Call (.Attribute (.Call (.Name "super" p0) [] [] p1) "__init__" p2) [.Name x p3, .Name y q5] [] p4) p5, .Assign [.Attribute (.Name sn p6) fn p7] (.Name x p8) p9, .Assign [.Attribute (.Name sn q6) gn q7] (.Name y q8) q9] scope [sn, x, y] f fd cda cc D) (S : InS [sn, x, y] scope)
    (d1 : (sn == ("__debug__" : Str)) = false) (d2 : (sn == ("__classdict__" : Str)) = false) (d3 : (x == ("__debug__" : Str)) = false) (d4 : (x == ("__classdict__" : Str)) = false) (d5 : (y == ("__debug__" : Str)) = false) (d6 : (y == ("__classdict__" : Str)) = false)
    {pl : Env → Sem Bool} (hcall : ∀ env : Env, eval (.Call (.Attribute (.Call (.Name "super" p0) [] [] p1) "__init__" p2) [.Name x p3, .Name y q5] [] p4) env = (do
      let ov ← attributeBase (.Call (.Name "super" p0) [] [] p1) "__init__" env (eval (.Call (.Name "super" p0) [] [] p1) env)
      standAt p2.atName
      let (f, first) ← holding [ov] (getMethod ov "__init__" (pl env))
      callWith p4 f first (backTo p4 (starEach [.Name x p3, .Name y q5] env)) [])) :
    FnOk P w K mg base (L2.CX P w) (k + 1) f fd [sn, x, y] (sp2 K D fn gn) := by
  have vx : ∀ {A : Around} {outer : List Env} {s : Shared} {H : Hp} {E : XK} {z : Str}, z ∈ [sn, x, y] → Vis (inCx P w K mg base [sn, x, y] qual scope f cda cc A outer s H E).env.scope z := fun {A outer s H E z} h => .inl (S.par _ h)
  have base_ := init_fn (w := w) (base := base) (k := k) (ta := tCons (tVar 1) (tCons (tVar 2) tNil)) (t := tSeq (tOst K fn (tVar 0) (tVar 1)) (tSeq (tOst K gn (tVar 0) (tVar 2)) tNext)) F S (fun A outer s H E => pa_cons (pe_var (i := 1) rfl (vx (by simp)) d3 d4) (pa_cons (pe_var (i := 2) rfl (vx (by simp)) d5 d6) pa_nil))
    (fun A outer s H E => pss_cons (ps_ost (pe_var (i := 0) rfl (vx (by simp)) d1 d2) (pe_var (i := 1) rfl (vx (by simp)) d3 d4)) (pss_cons (ps_ost (pe_var (i := 0) rfl (vx (by simp)) d1 d2) (pe_var (i := 2) rfl (vx (by simp)) d5 d6)) pss_nil)) hcall (fun _ => rfl) (fun _ => rfl)
  refine base_.imp fun vs H Q E h => ?_
  obtain ⟨a, C, y, z, rfl, hH, SC, hno, hno2, hq⟩ := h
  refine ⟨rfl, a, C, rfl, hH, SC, y, rfl, z, rfl, by simp, hH, y, rfl, .ref a, rfl, a, C, rfl, SC.ox, hno, .inl ⟨hH, fun dx h1 h2 => ?_⟩⟩
  refine ⟨z, rfl, .ref a, rfl, a, C, rfl, SC.ox, hno2, .inr ⟨dx, [(fn, y)], upd_same, ?_, by simp, ?_⟩⟩
  · rw [upd_ne h2, upd_same]
  · have e : upd (upd (upd H dx (exd dx [(fn, y)])) a (exo a C (some dx))) dx (exd dx [(gn, z), (fn, y)]) = upd (upd H a (exo a C (some dx))) dx (exd dx [(gn, z), (fn, y)]) := by
      funext b
      by_cases hb : b = dx
      · rw [hb, upd_same, upd_same]
      · rw [upd_ne hb, upd_ne hb]
        by_cases hc : b = a
        · rw [hc, upd_same, upd_same]
        · rw [upd_ne hc, upd_ne hc, upd_ne hb]
    show Q .non _
    rw [e]
    exact hq dx h1 h2
end
end X1

/-! X2: raise of such exceptions, over data -/
namespace X1
open PySem PySem.Spec PyProof.Rows L2 L3
/-- a class of the module whose __init__ keeps sp -/
structure ExcK (P : Program) (w : World) (K : PySem.W.Frag) (mg : Str → Option Value) (base : Heap) (k : Nat) (x : Str) (C D : Addr) (n : Nat) (sp : Sp) : Prop where
  mgC : mg x = some (.ref C)
  sc : SupC K D C
  ini : ∃ (fI : Addr) (fd : FuncData) (ps : List Str), ps.length = n + 1 ∧ PySem.W.findIn K (.ref C) "__init__" = some (some (.ref fI)) ∧ PySem.W.typeIn K (.ref fI) = some (.type "function") ∧ FnOk P w K mg base (L2.CX P w) k fI fd ps sp ∧ Binds K fd ps []
section
variable {K : PySem.W.Frag} {c : C0} {W : WX} {σ : L2.St} {G H : Hp} {e : List S} {C : Addr} {ns : List Str} {ds : List D} {vs : List V} {Xd : XD}
/-- the exception's dict is laid -/
theorem exc_step (r : Rel K c G H σ e) (rd : RepDs K G ds vs) (hl : ns.length = ds.length) {dx : Addr} (hdx : H dx = none) (h : Xd ⟨C, ns, ds⟩ e) (hX : KE K c W Xd σ G H e) : W (.ref C) (some dx) σ (upd H dx (.xd (ns.zip vs))) := by
  have st := Step.ext r (same_upd (o := HO.xd (ns.zip vs)) hdx) (Same.refl G) (r.gh.trans (same_upd hdx)) fun a h => .inl h
  exact hX ⟨C, ns, ds⟩ e _ _ _ _ st ⟨rfl, dx, vs, rfl, upd_same, by rw [hl, rd.length], rd, hdx⟩ h
theorem del_eq {H1 H2 : Hp} {a dx : Addr} {o o' u : HO} (hn : H1 a = none) (hne : dx ≠ a) (h : ∀ b, b ≠ a → b ≠ dx → H2 b = H1 b) : upd (del H2 a) dx u = upd H1 dx u := by
  funext b
  by_cases hb : b = dx
  · rw [hb, upd_same, upd_same]
  · rw [upd_ne hb, upd_ne hb]
    by_cases hc : b = a
    · rw [hc, del_same, hn]
    · rw [del_ne hc, h b hc hb]
end
section
variable {X : Cx} {c : C0} {W : WX} {k j : Nat} {x fn gn : Str} {C D : Addr} {p pos pos' : Pos} {e1 : Expr} {es : List Expr} {t : TDA}
/-- raise C(d) -/
def dRaise1 (C : Addr) (fn : Str) (t : TDA) : TDS := fun Xd _ e => t Xd e fun as e1 => ∃ d, dats as = some [d] ∧ Xd ⟨C, [fn], [d]⟩ e1
def dRaise2 (C : Addr) (fn gn : Str) (t : TDA) : TDS := fun Xd _ e => t Xd e fun as e1 => ∃ d d', dats as = some [d, d'] ∧ Xd ⟨C, [gn, fn], [d', d]⟩ e1
theorem ds_raise1 (E : ExcK X.prog X.w X.K X.mg X.base k x C D 1 (sp1 X.K D fn)) (hno : PySem.W.findIn X.K (.ref C) fn = some none) (hc : X.calm = true) (hr : Room j X.A) (hk : k + 1 ≤ j) (tk : Takes X W) (ha : DA X c W (e1 :: es) t) (hg : Gl X x := by rfl)
    (hdb : (x == ("__debug__" : Str)) = false := by decide) (he : starEach (e1 :: es) X.env = (false, eval e1 X.env) :: starEach es X.env := by rfl) (hpl : (backTo pos (starEach es X.env)).any (·.1) = false := by rfl) :
    DS X c W (.Raise (some (.Call (.Name x p) (e1 :: es) [] pos)) none pos') (dRaise1 C fn t) := by
  obtain ⟨fI, fd, ps, hps, iC, tI, F1, hb⟩ := E.ini
  refine ⟨PS.imp (ps_raise hc tk (pmk_oex E.sc.ox iC tI F1 (hr.mono hk) hb .nil (passes_call tk fun _ _ _ _ z => z.elim) hg E.mgC ha.pa hdb he hpl)) fun Dx σ H ⟨G, e, De, Xd, rel, h, f⟩ => ?_⟩
  refine ⟨G, e, _, Xd, rel, h, fun as e2 vs G1 H1 s1 r1 h1 => ?_, f.ke rel⟩
  obtain ⟨d, hd, h1⟩ := h1
  have rd := dats_rep r1 hd
  cases rd with
  | @cons _ v _ _ r0 rr =>
    cases rr
    refine ⟨by simp, fun a hn => ⟨a, C, v, rfl, upd_same, E.sc, hno, fun dx hdx hne => ⟨rfl, dx, [(fn, v)], upd_same, ?_, ?_, ?_⟩⟩⟩
    · rw [upd_ne hne, upd_same]
    · rw [upd_ne hne] at hdx; exact hdx
    · rw [upd_ne hne] at hdx
      rw [del_eq (o := .tup []) (o' := .tup []) (H1 := H1) hn hne fun b h1 h2 => by rw [upd_ne h1, upd_ne h2, upd_ne h1]]
      exact exc_step (ns := [fn]) s1.rel (.cons r0 .nil) rfl hdx h1 ((f.ke rel).step rel s1)
theorem ds_raise2 (E : ExcK X.prog X.w X.K X.mg X.base k x C D 2 (sp2 X.K D fn gn)) (hno : PySem.W.findIn X.K (.ref C) fn = some none) (hno2 : PySem.W.findIn X.K (.ref C) gn = some none) (hc : X.calm = true) (hr : Room j X.A) (hk : k + 1 ≤ j) (tk : Takes X W) (ha : DA X c W (e1 :: es) t) (hg : Gl X x := by rfl)
    (hdb : (x == ("__debug__" : Str)) = false := by decide) (he : starEach (e1 :: es) X.env = (false, eval e1 X.env) :: starEach es X.env := by rfl) (hpl : (backTo pos (starEach es X.env)).any (·.1) = false := by rfl) :
    DS X c W (.Raise (some (.Call (.Name x p) (e1 :: es) [] pos)) none pos') (dRaise2 C fn gn t) := by
  obtain ⟨fI, fd, ps, hps, iC, tI, F1, hb⟩ := E.ini
  refine ⟨PS.imp (ps_raise hc tk (pmk_oex E.sc.ox iC tI F1 (hr.mono hk) hb .nil (passes_call tk fun _ _ _ _ z => z.elim) hg E.mgC ha.pa hdb he hpl)) fun Dx σ H ⟨G, e, De, Xd, rel, h, f⟩ => ?_⟩
  refine ⟨G, e, _, Xd, rel, h, fun as e2 vs G1 H1 s1 r1 h1 => ?_, f.ke rel⟩
  obtain ⟨d, d', hd, h1⟩ := h1
  have rd := dats_rep r1 hd
  cases rd with
  | @cons _ v _ _ r0 rr =>
    cases rr with
    | @cons _ v' _ _ r0' rr' =>
      cases rr'
      refine ⟨by simp, fun a hn => ⟨a, C, v, v', rfl, upd_same, E.sc, hno, hno2, fun dx hdx hne => ⟨rfl, dx, [(gn, v'), (fn, v)], ?_, upd_same, ?_, ?_⟩⟩⟩
      · rw [upd_ne (Ne.symm hne), upd_same]
      · rw [upd_ne hne] at hdx; exact hdx
      · rw [upd_ne hne] at hdx
        rw [del_eq (o := .tup []) (o' := .tup []) (H1 := H1) hn hne fun b h1 h2 => by rw [upd_ne h2, upd_ne h1, upd_ne h1]]
        exact exc_step (ns := [gn, fn]) s1.rel (.cons r0' (.cons r0 .nil)) rfl hdx h1 ((f.ke rel).step rel s1)
end
end X1

/-! X3: try .. except C as n: v = n. The exception is a value from then on -/
namespace L2
open PySem PySem.Spec PyProof.Rows
section
variable {X : Cx} {pins : List (Addr × Obj)} {σ : St} {H : Hp} {s : Shared}
/-- an object that was made behind the entry, and that nobody tracks, is tracked -/
theorem Inv.track {a : Addr} {o : HO} {oe : Obj} {vs : Array Value} (I : Inv X pins σ H s) (h0 : X.s_0.heap.get? a = none) (hn : H a = none) (nL : a ≠ X.env.locals) (hp : ∀ p ∈ X.pn ++ pins, p.1 ≠ a) (he : s.heap.get? a = some oe) (hd : oe.data = .fields vs)
    (new : ObjOk X.prog X.w (upd H a o) s.heap a o) : Inv X pins σ (upd H a o) s := by
  have at_ : ∀ {b : Addr} {u : HO}, H b = some u → upd H a o b = some u := fun {b u} q => by rw [upd_ne (ne_of_none q hn)]; exact q
  refine ⟨I.ok, I.os, I.bare, ⟨I.base.keep, I.base.slot, fun b ob q n hx => ?_, I.base.there, fun b xs q => at_ (I.base.tups b xs q), fun b ob u q => at_ (I.base.frzs b ob u q), fun b ps q => ?_⟩, I.loc, I.cell, ?_, fun y c q => ?_, fun p h => ?_, I.hok.laidN (fun _ _ z => z) hn new, I.len⟩
  · have : b ≠ a := fun z => by rw [z, h0] at q; cases q
    rw [upd_ne this]
    exact I.base.free b ob q n hx
  · obtain ⟨more, z⟩ := I.base.tbls b ps q
    exact ⟨more, at_ z⟩
  · rw [upd_ne (Ne.symm nL)]; exact I.free
  · have : c ≠ a := fun z => by
      obtain ⟨v, o', e1, e2⟩ := I.cell y c q
      rw [z, he] at e1
      cases e1
      rw [hd] at e2
      cases e2
    rw [upd_ne this]
    exact I.freeC y c q
  · obtain ⟨q1, q2, q3⟩ := I.pin p h
    exact ⟨q1, by rw [upd_ne (hp p h)]; exact q2, q3⟩
end
/-- what the clause wishes of an exception of the body -/
def wCatch (K : PySem.W.Frag) (c : Value) (i j : Nat) (Wout : WX) (D : Ends) : WX := fun cls d σ H =>
  ∃ b, PySem.W.exmOne K cls c = some b ∧ (b = true → ∀ a, H a = none → D.nx (((σ.set i (some (.ref a))).set j (some (.ref a))).set i none) (upd H a (exv a cls d))) ∧ (b = false → Wout cls d σ H)
section
variable {X : Cx} {x n y : Str} {c : Value} {i j : Nat} {body : List Stmt} {np pos pos' p1 p2 p3 : Pos} {tb : WX → TS} {Wout : WX}
theorem ps_try_catch (hs : X.stack = X.env :: X.outer) (hf : X.env.frame = some X.env.locals) (hex : X.ex = []) (hN : X.N.Nodup) (hi : X.N[i]? = some n) (hj : X.N[j]? = some y) (hln : X.env.kindOf n = some .local) (hlj : X.env.kindOf y = some .local) (hc : Names X x c) (tk : Takes X Wout)
    (d1 : (n == ("__debug__" : Str)) = false) (d2 : (n == ("__classdict__" : Str)) = false)
    (hb : ∀ (W : WX) (pn : List (Addr × Obj)) (xe : Value → Shared → Prop), Takes (X.tr pn xe) W → PassesOwn (model X.prog X.w) X.A X.env xe → PSs (X.tr pn xe) body (tb W)) :
    PS X (.Try body [.ExceptHandler (some (.Name x np)) (some n) [.Assign [.Name y p1] (.Name n p2) p3] pos'] [] [] pos) (fun D σ H => tb (wCatch X.K c i j Wout D) D σ H) := by
  refine ⟨fun pins s σ H D I h => ?_⟩
  have okX := I.ok
  have hfrm : X.A.frames = some (X.env :: X.outer) := by rw [okX.frames, hs]
  refine wpAny_Try_except ?_
  refine wpAny_mono ((hb (wCatch X.K c i j Wout D) (X.pn ++ pins) (fun e t1 => wpAny (model X.prog X.w) X.A (noteFrame e X.env) (fun _ t2 => wpAny (model X.prog X.w) X.A (setFlight e none) (fun _ t3 =>
    wpAny (model X.prog X.w) X.A (handleBy e X.env [.ExceptHandler (some (.Name x np)) (some n) [.Assign [.Name y p1] (.Name n p2) p3] pos']) (SP X pins D) X.xe t3) X.xe t2) X.xe t1) (fun u s' xx => ?_) PassesOwn.looking).run [] s σ H D (I.toTry _) h) (fun f s1 hfin => ?_) (fun e s1 he => he)
  · obtain ⟨a, B, sI, pins', σ', H', cls, d, rfl, J', nb, up, sky, na, os, ag, b, hb1, hyes, hno⟩ := xx
    have J : Inv X pins σ' H' sI := J'.ofTry okX
    have sky2 : Sky B (X.env :: X.outer) a (Zc cls d) X.env.locals s'.heap := by rw [← hs]; exact sky
    show wpAny (model X.prog X.w) X.A (noteFrame (.ref a) X.env) _ _ _
    refine Sky.land Zc.steady hfrm hf sky2 fun kp1 ga ua => ?_
    have Jn : Inv X pins σ' H' { s' with heap := kp1 } := J.landed nb ga.1 (up.trans ua) os ag
    have hBa : B.get? a = none := ga.2.1
    obtain ⟨oa, va, ea, za, da⟩ := ga.there
    have nfr : a ∉ frs (X.env :: X.outer) := fun hm => by
      obtain ⟨_, o', e', hnf⟩ := ga.2.2.1.mem hm
      rw [ea] at e'; cases e'
      exact hnf _ da
    have neLoc : a ≠ X.env.locals := fun z => nfr (List.mem_filterMap.mpr ⟨X.env, List.mem_cons_self, by rw [hf, z]⟩)
    have neFr : a ∉ X.fs := fun hm => by
      obtain ⟨e, he, q⟩ := List.mem_filterMap.mp hm
      exact nfr (List.mem_filterMap.mpr ⟨e, List.mem_cons_of_mem _ he, q⟩)
    have aI : sI.heap.get? a = none := by
      cases q : sI.heap.get? a with
      | none => rfl
      | some o => rw [nb a o q (by rw [hs]; exact nfr)] at hBa; cases hBa
    have a0 : X.s_0.heap.get? a = none := by
      cases q : X.s_0.heap.get? a with
      | none => rfl
      | some o =>
        obtain ⟨o', z⟩ := J.base.there a o q (by rw [hex]; simp)
        rw [aI] at z; cases z
    have hpn : ∀ p ∈ X.pn ++ pins, p.1 ≠ a := fun p hp z => by
      have q := (J.pin p hp).1
      rw [z, aI] at q; cases q
    have Sn := Jn.suite ea da na neLoc neFr
    refine wpAny_handleBy_cons (codeAny_handlers_test ?_) (fun q => nomatch q)
    have lt1 : PySem.W.Looks (model X.prog X.w) kp1 (typeOf (.ref a)) cls := fun A Q E s k q => wpAny_typeOf_ref (k _ _ ea) (by rw [za.1]; exact q)
    have lm1 := PySem.W.exm_one (M := model X.prog X.w) (Jn.kIn) lt1 hb1
    have look : ∀ {Q : Value → Shared → Prop} {E : Value → Shared → Prop}, Q c { s' with heap := kp1 } → wpAny (model X.prog X.w) (X.A.mark (some (.ref a))) (eval (.Name x np) X.env) Q E { s' with heap := kp1 } := fun {Q E} q => by
      obtain ⟨hg, hdbg, hm | ⟨hm, hv, hnn⟩⟩ := hc
      · exact ld_glob (X := X.suite a ((a, oa) :: (X.pn ++ pins))) Sn hg hm q hdbg
      · exact ld_blt (X := X.suite a ((a, oa) :: (X.pn ++ pins))) Sn hg hm hv q hnn hdbg
    refine look (lm1.here ?_)
    cases b with
    | true =>
      refine codeAny_handlers_suite_as ?_
      refine HandSPX.lands_againZ ga fun kp2 gb ub => ?_
      have Jm : Inv X pins σ' H' { s' with heap := kp2 } := J.landed nb gb.1 ((up.trans ua).trans ub) os ag
      obtain ⟨ob, vb, eb, zb, db⟩ := gb.there
      have Sm := Jm.suite eb db na neLoc neFr
      refine store_ok (X := X.suite a ((a, ob) :: (X.pn ++ pins))) (v := .ref a) Sm hN hi (.inl hln) rfl (fun s5 S5 => ?_) (.inr hln)
      have hset := pss_one (ps_set (X := X.suite a ((a, ob) :: (X.pn ++ pins))) (i := j) (pos := p3) (pos' := p1) hN hj (.inl hlj) (pe_var (X := X.suite a ((a, ob) :: (X.pn ++ pins))) (pos := p2) (i := i) hi (.inl hln) d1 d2) rfl (.inr hlj))
      have hlt : i < σ'.length := by
        have q := (List.getElem?_eq_some_iff.mp hi).1
        rw [J.len]
        exact q
      refine wpAny_mono (hset.run [] s5 _ H' { nx := fun σ6 H6 => σ6 = (σ'.set i (some (.ref a))).set j (some (.ref a)) ∧ H6 = H', rt := fun _ _ => False } S5 ⟨.ref a, List.getElem?_set_self hlt, rfl, rfl⟩) (fun f s6 hfin => ?_) (fun _ _ z => False.elim z)
      cases f with
      | next =>
        obtain ⟨σ6, H6, S6, e6, e7⟩ := hfin
        subst e6 e7
        have q6 := (S6.pin (a, ob) (List.mem_append_left _ (List.mem_cons_self ..))).1
        have J6 := (S6.unsuite okX).track a0 na neLoc hpn q6 db (exv_ok q6 zb db)
        exact gone_ok J6 hN hi hln fun s7 J7 => ⟨_, _, J7, hyes rfl a na⟩
      | brk =>
        obtain ⟨_, _, _, z⟩ := hfin
        exact z.elim
      | cont =>
        obtain ⟨_, _, _, z⟩ := hfin
        exact z.elim
      | ret u =>
        obtain ⟨_, _, _, _, _, z⟩ := hfin
        exact z.elim
    | false =>
      show wpAny _ X.A (handleBy (.ref a) X.env []) _ _ _
      refine wpAny_handleBy_nil ?_
      obtain ⟨k1, k2, k3, oe, vs, T, oT, ts', he, hz, hd, h1, hr⟩ := id ga
      unfold PySem.passOn
      refine wpAny_bind (wpAny_field he hd h1 ?_)
      rw [if_neg (show ¬ ((Value.ref T == Value.none) = true) from by simp)]
      have away : wpAny (model X.prog X.w) X.A (setFlight (.ref a) X.env.frame) (fun _ s4 => wpAny (model X.prog X.w) X.A (throw (.ref a) : Sem Flow) (SP X pins D) X.xe s4) X.xe { s' with heap := kp1 } := by
        rw [hf]
        refine HandSPX.setFlight_upZ ga fun kp2 hhb ub => wpAny_throw (tk _ _ ?_)
        exact ⟨a, B, sI, pins, σ', H', cls, d, rfl, J, nb, (up.trans ua).trans ub, .inr (.inr (by rw [hs]; exact hhb)), na, os, ag, hno rfl⟩
      first
        | exact wpAny_bind (wpAny_pure (wpAny_bind away))
        | exact wpAny_bind away
  · cases f with
    | next =>
      obtain ⟨σ', H', J', q⟩ := hfin
      exact wpAny_execs_nil ⟨σ', H', J'.ofTry okX, q⟩
    | brk =>
      obtain ⟨σ', H', J', q⟩ := hfin
      exact ⟨σ', H', J'.ofTry okX, q⟩
    | cont =>
      obtain ⟨σ', H', J', q⟩ := hfin
      exact ⟨σ', H', J'.ofTry okX, q⟩
    | ret u =>
      obtain ⟨v, σ', H', J', r, q⟩ := hfin
      exact ⟨v, σ', H', J'.ofTry okX, r, q⟩
end
end L2

/-! X4: an exception as a value: isinstance, its fields -/
namespace L2
open PySem PySem.Spec PyProof.Rows
/-- what an exception class must say of its instances -/
structure XvC (K : PySem.W.Frag) (C : Addr) : Prop where
  ex : ExcC K C
theorem XvC.xf {K : PySem.W.Frag} {C : Addr} (h : XvC K C) : XfC K C := ⟨h.ex.hg, h.ex.hk, h.ex.hs, h.ex.hd⟩
section
variable {X : Cx}
theorem exv_inst {P : Program} {w : World} {H : Hp} {h : Heap} {a C dd : Addr} {fs : List (Str × V)} (hok : HOk P w H h) (ha : H a = some (exv a (.ref C) (some dd))) (hd : H dd = some (.xd fs)) :
    ∃ (oe od : Obj) (mA : Str → Option Value), PySem.W.InstAt h a oe C (some od) ∧ (∀ f, PySem.W.lookIn f od = some (mA f)) ∧ ∀ f, RelO (fs.lookup f) (mA f) := by
  obtain ⟨oe, vs, q1, q2, q3⟩ := exv_at hok ha
  have hx : ObjOk P w H h dd (.xd fs) := hok dd _ hd
  obtain ⟨mA, hns, hr⟩ := hx
  obtain ⟨od, ho, hl⟩ := lookIn_ns hns
  exact ⟨oe, od, mA, ⟨q1, q2.1, by unfold PySem.W.notCls; rw [q3] <;> rfl, by rw [q2.2]; exact ho⟩, hl, hr⟩
/-- isinstance(e, c), e an exception held as a value -/
def rIsV (K : PySem.W.Frag) : List V → Hp → VK → Prop := fun xs H Q => ∃ (a C dd : Addr) (fs : List (Str × V)) (c : V) (cv : Value) (b : Bool), xs = [.ref a, c] ∧ H a = some (exv a (.ref C) (some dd)) ∧ H dd = some (.xd fs) ∧ ExcC K C ∧ (∀ u, RelV c u → u = cv) ∧ PySem.W.kitOne K (.ref C) cv = some b ∧ Q (.bl b) H
theorem call_isV : CallR X (.builtin "isinstance") (rIsV X.K) := by
  intro pins s σ H xs us Q I r h
  obtain ⟨a, C, dd, fs, c, cv, b, rfl, ha, hd, T, hcv, e, q⟩ := h
  cases r with
  | cons rx rr =>
    cases rr with
    | cons rt rr =>
      cases rr
      cases rx
      have ec := hcv _ rt
      subst ec
      obtain ⟨oe, od, mA, J, _, _⟩ := exv_inst I.hok ha hd
      obtain ⟨cdD, hcD, _⟩ := PySem.W.any_some T.hd
      refine PySem.W.kia_one (PySem.W.kitx_exc (ox := oe) (od := some od) (by rw [hcD]; rfl) T.hg T.hk T.hs T.ha T.hn T.ht T.hm) I.kIn J e (fun z => nomatch z) fun tk => ?_
      exact ⟨.bl b, H, I.kept (t' := tk) fun _ _ z => z, rfl, q⟩
/-- e.f, e an exception held as a value -/
def tXv (K : PySem.W.Frag) (f : Str) (te : TE) : TE := fun σ H Q => te σ H fun x H1 => ∃ (a C dd : Addr) (fs : List (Str × V)) (v : V), x = .ref a ∧ H1 a = some (exv a (.ref C) (some dd)) ∧ H1 dd = some (.xd fs) ∧ ExcC K C ∧ PySem.W.findIn K (.ref C) f = some none ∧ fs.lookup f = some v ∧ Q v H1
theorem pe_xv {e : Expr} {te : TE} {pos : Pos} {n : Str} (he : PE X e te) (hb : attributeBase e n X.env (eval e X.env) = eval e X.env := by rfl) : PE X (.Attribute e n pos) (tXv X.K n te) := by
  refine ⟨fun pins s σ H Q I h => attr_of hb (thn (he.run pins s σ H _ I h) fun u s1 hh => ?_)⟩
  obtain ⟨x, H1, I1, rx, a, C, dd, fs, v, ex, ha, hd, T, hno, l, q⟩ := hh
  subst ex
  obtain rfl : u = Value.ref a := rx
  obtain ⟨oe, od, mA, J, hl, hr⟩ := exv_inst I1.hok ha hd
  obtain ⟨u, hu, ru⟩ := RelO.some_of (v := v) (o := mA n) (by rw [← l]; exact hr n)
  exact HandSPX.exc_get I1.kIn J T.hg T.hk T.hs (PySem.W.findObj_own T.hd hno rfl (by rw [hl, hu])) (handed_of ru) ⟨v, H1, I1.tok _, ru, q⟩
end
end L2

/-! X5: exceptions over data: isinstance, fields, try -/
namespace X1
open PySem PySem.Spec PyProof.Rows L2 L3
section
variable {K : PySem.W.Frag} {G H : Hp} {v : V}
theorem dv_exc {C : Addr} {fs : List Str} {xs : List D} (h : DV K G H (excD C fs xs) v) (s : Same G H) : ∃ (a dd : Addr) (vs : List V), v = .ref a ∧ H a = some (exv a (.ref C) (some dd)) ∧ H dd = some (.xd (fs.zip vs)) ∧ fs.length = vs.length ∧ RepDs K G xs vs := by
  have ne1 : ("!" : Str) ≠ "[]" := by decide
  have ne2 : ("!" : Str) ≠ "fn" := by decide
  rcases h with h | ⟨_, _, _, h, _⟩ | ⟨_, _, _, _, h, _⟩
  · unfold excD at h
    generalize ed : D.ins C ("!" :: fs) xs = d at h
    cases h with
    | ins hn _ _ _ =>
      cases ed
      have : okF ("!" :: fs) = false := by
        show ((("!" : Str) != "[]") && (("!" : Str) != "!") && (("!" : Str) != "fn")) = false
        decide
      rw [this] at hn
      cases hn
    | scr _ _ =>
      have e := congrArg (fun d => match d with | D.ins _ (x :: _) _ => x | _ => "") ed
      exact absurd e ne1
    | fn =>
      have e := congrArg (fun d => match d with | D.ins _ (x :: _) _ => x | _ => "") ed
      exact absurd e ne2
    | exn h1 h2 h3 h4 => cases ed; exact ⟨_, _, _, rfl, s _ _ h1, s _ _ h2, h3, h4⟩
    | non => cases ed
    | bl _ => cases ed
    | int _ => cases ed
    | str _ => cases ed
    | tup _ _ => cases ed
    | lst _ _ => cases ed
    | dct _ _ _ => cases ed
  · cases h
  · cases h
theorem zip_look {ns : List Str} {n : Str} : ∀ {fs : List Str} {xs : List D} {vs : List V} {y : D}, RepDs K G xs vs → (fs.zip xs).lookup n = some y → ∃ u, (fs.zip vs).lookup n = some u ∧ RepD K G y u
  | [], _, _, _, _, h => by simp at h
  | f :: fs, [], _, _, _, h => by simp at h
  | f :: fs, x :: xs, [], _, r, _ => by cases r
  | f :: fs, x :: xs, v :: vs, y, .cons r1 r2, h => by
    simp only [List.zip_cons_cons, List.lookup_cons] at h ⊢
    cases q : n == f with
    | true => rw [q] at h; cases h; exact ⟨v, rfl, r1⟩
    | false => rw [q] at h; exact zip_look (ns := ns) r2 h
/-- isinstance(e, C') -/
def r31IsC (isV : Addr → Option Bool) : R31 := fun d Q => ∃ C fs xs b, d = excD C fs xs ∧ isV C = some b ∧ Q (.d (.bl b))
/-- e.n -/
def r31Fld (okA : Addr → Prop) (n : Str) : R31 := fun d Q => ∃ C fs xs y, d = excD C fs xs ∧ okA C ∧ (fs.zip xs).lookup n = some y ∧ Q (.d y)
end
section
variable {X : Cx} {c : C0} {W : WX} {x cn : Str} {p p2 pos : Pos} {ex : Expr} {te : TDE} {C' : Addr} {isV : Addr → Option Bool} {okA : Addr → Prop}
theorem de_isC (hV : ∀ C b, isV C = some b → ExcC X.K C ∧ PySem.W.kitOne X.K (.ref C) (.ref C') = some b) (hm : X.mg "isinstance" = none) (hmt : X.mg cn = some (.ref C')) (ha : DE X c W ex te) (hg : Gl X "isinstance" := by rfl) (hgt : Gl X cn := by rfl) (hdb : (cn == ("__debug__" : Str)) = false := by decide)
    (hv : bootBuiltins "isinstance" = some (.builtin "isinstance") := by first | exact PyProof.Rows.boot_isinstance | decide +kernel)
    (he : starEach (ex :: [Expr.Name cn p2]) X.env = (false, eval ex X.env) :: starEach [Expr.Name cn p2] X.env := by rfl) (he2 : starEach (Expr.Name cn p2 :: []) X.env = (false, eval (Expr.Name cn p2) X.env) :: starEach [] X.env := by rfl) (hpl : (backTo pos (starEach [Expr.Name cn p2] X.env)).any (·.1) = false := by rfl) :
    DE X c W (.Call (.Name "isinstance" p) [ex, .Name cn p2] [] pos) (dUn (r31IsC isV) te) := by
  refine ⟨PE.imp (pe_callB (r := rIsV X.K) call_isV hg hm hv (pa_cons ha.pe (pa_cons (pe_glob (v := .ref C') hgt hmt rfl hdb) pa_nil he2) he) (by decide) (by decide) he hpl) fun σ H Q h => ?_⟩
  refine lift_un (r := fun x H Q => rIsV X.K [x, .ref C'] H Q) (fun G H d x Qr Q sg hd h3 k => ?_) h
  obtain ⟨C, fs, xs, b, rfl, hb, q⟩ := h3
  obtain ⟨a, dd, vs, rfl, h1, h2, _, _⟩ := dv_exc hd sg
  obtain ⟨T, hk⟩ := hV C b hb
  exact ⟨a, C, dd, _, .ref C', .ref C', b, rfl, h1, h2, T, fun u r => r, hk, k _ _ _ _ (.d (.bl _)) q⟩
theorem de_fld {n : Str} (hA : ∀ C, okA C → ExcC X.K C ∧ PySem.W.findIn X.K (.ref C) n = some none) (ha : DE X c W ex te) (hb : attributeBase ex n X.env (eval ex X.env) = eval ex X.env := by rfl) : DE X c W (.Attribute ex n pos) (dUn (r31Fld okA n) te) := by
  refine ⟨PE.imp (pe_xv ha.pe hb) fun σ H Q h => ?_⟩
  refine lift_un (r := fun x H1 Q => ∃ (a C dd : Addr) (fs : List (Str × V)) (v : V), x = .ref a ∧ H1 a = some (exv a (.ref C) (some dd)) ∧ H1 dd = some (.xd fs) ∧ ExcC X.K C ∧ PySem.W.findIn X.K (.ref C) n = some none ∧ fs.lookup n = some v ∧ Q v H1) (fun G H d x Qr Q sg hd h3 k => ?_) h
  obtain ⟨C, fs, xs, y, rfl, hC, hy, q⟩ := h3
  obtain ⟨a, dd, vs, rfl, h1, h2, _, rd⟩ := dv_exc hd sg
  obtain ⟨T, hno⟩ := hA C hC
  obtain ⟨u, hu, ru⟩ := zip_look (ns := []) rd hy
  exact ⟨a, C, dd, _, u, rfl, h1, h2, T, hno, hu, k _ _ _ _ (.d ru) q⟩
end
end X1

/-! X6: try .. except C as n: v = n, over data -/
namespace X1
open PySem PySem.Spec PyProof.Rows L2 L3
section
variable {K : PySem.W.Frag} {c : C0} {W : WX} {σ : L2.St} {G H : Hp} {e : List S} {a : Addr} {o : HO}
theorem own_kind (r : Rel K c G H σ e) (h : OwnAt σ e a) : (∃ vs, H a = some (.lst vs)) ∨ ∃ kvs, H a = some (.dK kvs) := by
  obtain ⟨i, s, h1, h2, h3⟩ := h
  have q := r.slot h1 h3
  cases s with
  | no => cases h2
  | d x => cases h2
  | ol xs => obtain ⟨b, vs, e1, e2, _⟩ := q; cases e1; exact .inl ⟨_, e2⟩
  | od ks xs => obtain ⟨b, vs, e1, e2, _⟩ := q; cases e1; exact .inr ⟨_, e2⟩
  | well n => obtain ⟨b, e1, _, _, _, _, e2, _⟩ := q; cases e1; exact .inl ⟨_, e2⟩
  | wl xs => obtain ⟨b, vs, e1, e2, _⟩ := q; cases e1; exact .inl ⟨_, e2⟩
/-- something that was made behind the entry, in nobody's slot, is data from now on -/
theorem _root_.L3.Rel.pub (r : Rel K c G H σ e) (hH : H a = some o) (h0 : c.H0 a = none) (hg : G a = none) (hn : ¬ OwnAt σ e a) (nt : a ∉ c.tb) : Rel K c (upd G a o) H σ e := by
  have sg : Same G (upd G a o) := same_upd hg
  have oth : ∀ b, OwnAt σ e b → b ≠ a := fun b hb z => by subst z; exact hn hb
  refine ⟨r.len, fun j t h1 => (r.sl j t h1).mono sg fun _ _ _ _ h => h, fun b u h => ?_, r.keep, r.gsub.trans sg, fun b h => ?_, fun b hb => ?_, r.inj, r.rfs, r.ln, r.tabs, fun b hb => ?_⟩
  · by_cases z : b = a
    · subst z; rw [upd_same] at h; cases h; exact hH
    · rw [upd_ne z] at h; exact r.gh b u h
  · by_cases z : b = a
    · subst z; exact .inr h0
    · rw [upd_ne z] at h; exact r.gnew b h
  · rw [upd_ne (oth b hb)]; exact r.own b hb
  · have nb : b ≠ a := fun z => nt (by rw [← z]; exact hb)
    rw [upd_ne nb]
    exact r.gt b hb
/-- a slot of which nothing is said may be emptied -/
theorem _root_.L3.Rel.drop {i : Nat} (r : Rel K c G H σ e) (h : e[i]? = some .no) : Rel K c G H (σ.set i none) e := by
  have at_ : ∀ {j : Nat} {t : S}, e[j]? = some t → t.own = true → (σ.set i none)[j]? = σ[j]? := fun {j t} h1 o => by
    have : i ≠ j := fun z => by subst z; rw [h] at h1; cases h1; cases o
    rw [List.getElem?_set_ne this]
  refine ⟨by rw [List.length_set]; exact r.len, fun j t h1 => ?_, r.gh, r.keep, r.gsub, r.gnew, fun b ⟨j, t, h1, h2, h3⟩ => r.own b ⟨j, t, h1, h2, by rw [← at_ h1 h2]; exact h3⟩, fun j k t u b h1 h2 h3 h4 h5 h6 => ?_, fun j b hb => ?_, r.ln, r.tabs, r.gt⟩
  · by_cases z : i = j
    · subst z; rw [h] at h1; cases h1; trivial
    · rw [List.getElem?_set_ne z]; exact r.sl j t h1
  · rw [at_ h1 h3] at h5
    rw [at_ h2 h4] at h6
    exact r.inj j k t u b h1 h2 h3 h4 h5 h6
  · obtain ⟨h1, t, h2, h3⟩ := r.rfs j b hb
    exact ⟨by rw [at_ h2 (S.own_of_fixd h3)]; exact h1, t, h2, h3⟩
/-- behind the clause -/
theorem _root_.L3.Rel.caught {x : XV} {dd : Addr} {vs : List V} {i j : Nat} (r : Rel K c G H σ e) (hij : i ≠ j) (hi : ∃ s, e[i]? = some s ∧ s.fixd = false) (hj : ∃ s, e[j]? = some s ∧ s.fixd = false) (hd : H dd = some (.xd (x.ns.zip vs))) (hl : x.ns.length = vs.length) (rd : RepDs K G x.xs vs) (h0 : c.H0 dd = none)
    (na : H a = none) : ∃ G', Same G G' ∧ Rel K c G' (upd H a (exv a (.ref x.C) (some dd))) (((σ.set i (some (.ref a))).set j (some (.ref a))).set i none) ((e.set j (.d (excD x.C x.ns x.xs))).set i .no) := by
  have ntd : dd ∉ c.tb := r.tabs.ne fun ps z => by rw [hd] at z; cases z
  have nod : ¬ OwnAt σ e dd := fun z => by
    rcases own_kind r z with ⟨_, q⟩ | ⟨_, q⟩ <;> (rw [hd] at q; cases q)
  obtain ⟨G1, sg1, r1, hg1⟩ : ∃ G1, Same G G1 ∧ Rel K c G1 H σ e ∧ G1 dd = some (.xd (x.ns.zip vs)) := by
    cases q : G dd with
    | none => exact ⟨_, same_upd q, r.pub hd h0 q nod ntd, upd_same⟩
    | some o =>
      have := r.gh dd o q
      rw [hd] at this
      cases this
      exact ⟨G, Same.refl _, r, q⟩
  have ga : G1 a = none := r1.gh.free na
  have st := Step.ext r1 (same_upd (o := exv a (.ref x.C) (some dd)) na) (same_upd ga) (same_upd2 r1.gh) fun b hb => by
    by_cases z : b = a
    · subst z; exact .inr na
    · rw [upd_ne z] at hb; exact .inl hb
  have sg2 : Same G (upd G1 a (exv a (.ref x.C) (some dd))) := sg1.trans (same_upd ga)
  obtain ⟨si, hi1, hi2⟩ := hi
  obtain ⟨sj, hj1, hj2⟩ := hj
  have li := (List.getElem?_eq_some_iff.mp hi1).1
  have lj := (List.getElem?_eq_some_iff.mp hj1).1
  have hda : dd ≠ a := fun z => by rw [z, na] at hd; cases hd
  have rv : RepD K (upd G1 a (exv a (.ref x.C) (some dd))) (excD x.C x.ns x.xs) (.ref a) := .exn upd_same (by rw [upd_ne hda]; exact hg1) hl (RepDs.mono sg2 rd)
  have r3 := st.rel.put (i := j) (s := .d (excD x.C x.ns x.xs)) (v := .ref a) lj (fun t q => by rw [hj1] at q; cases q; exact hj2) ⟨_, rfl, rv⟩ (fun z => by cases z)
  have r4 := r3.put (i := i) (s := .no) (v := .ref a) (by rw [List.length_set]; exact li) (fun t q => by rw [List.getElem?_set_ne (Ne.symm hij), hi1] at q; cases q; exact hi2) trivial (fun z => by cases z)
  have r5 := r4.drop (i := i) (List.getElem?_set_self (by rw [List.length_set]; exact li))
  refine ⟨_, sg2, ?_⟩
  rw [List.set_comm _ _ hij]
  exact r5
end
/-- try: body / except C as n: v = n (slots i, j); isE: the classes below C -/
def dTry (isE : Addr → Prop) (i j : Nat) (t : TDS) : TDS := fun Xd De e => t (fun x e1 => isE x.C ∧ (∃ s, e1[i]? = some s ∧ s.fixd = false) ∧ (∃ s, e1[j]? = some s ∧ s.fixd = false) ∧ De.nx ((e1.set j (.d (excD x.C x.ns x.xs))).set i .no)) De e
section
variable {X : Cx} {c : C0} {W : WX} {xn n y : Str} {cl : Value} {i j : Nat} {body : List Stmt} {np pos pos' p1 p2 p3 : Pos} {t : TDS} {isE : Addr → Prop}
theorem ds_try (hE : ∀ C, isE C → PySem.W.exmOne X.K (.ref C) cl = some true) (hs : X.stack = X.env :: X.outer) (hf : X.env.frame = some X.env.locals) (hex : X.ex = []) (hN : X.N.Nodup) (hi : X.N[i]? = some n) (hj : X.N[j]? = some y) (hij : i ≠ j) (hln : X.env.kindOf n = some .local) (hlj : X.env.kindOf y = some .local)
    (hc : Names X xn cl) (tk : Takes X W) (d1 : (n == ("__debug__" : Str)) = false) (d2 : (n == ("__classdict__" : Str)) = false)
    (hb : ∀ (W' : WX) (pn : List (Addr × Obj)) (xe : Value → Shared → Prop), Takes (X.tr pn xe) W' → PassesOwn (model X.prog X.w) X.A X.env xe → DSs (X.tr pn xe) c W' body t) :
    DS X c W (.Try body [.ExceptHandler (some (.Name xn np)) (some n) [.Assign [.Name y p1] (.Name n p2) p3] pos'] [] [] pos) (dTry isE i j t) := by
  refine ⟨PS.imp (ps_try_catch (tb := fun W' => liftS X.K c W' t) hs hf hex hN hi hj hln hlj hc tk d1 d2 fun W' pn xe tk' po => (hb W' pn xe tk' po).pss) fun Dx σ H ⟨G, e, De, Xd, rel, h, f⟩ => ?_⟩
  refine ⟨G, e, De, _, rel, h, ⟨f.nx, f.rt, f.bk, f.ct, fun x e' cl' dd σ' G' H' r sg rx hx => ?_⟩⟩
  obtain ⟨rfl, a', vs, rfl, hd, hl, rd, h0⟩ := rx
  obtain ⟨hC, hi', hj', hnx⟩ := hx
  refine ⟨true, hE _ hC, fun _ a na => ?_, fun z => by cases z⟩
  obtain ⟨G'', sg', r'⟩ := r.caught hij hi' hj' hd hl rd h0 na
  exact f.nx _ G'' _ _ r' (sg.trans sg') hnx
end
end X1

/-! X7: a lambda handed to a def: with a default or without; what is kept -/
namespace LamD
open PySem PySem.Spec PyProof.Rows L2 LamX
abbrev lamQ (X : Cx) : Str := X.env.qual ++ "<lambda>"
/-- the function object of a lambda -/
abbrev lamFd (X : Cx) (params : Arguments) (body : Expr) (scope : Scope) (dV doc pm : Value) (c' : Addr) (ctv : Value) : FuncData :=
  PySem.W.kdv_fn "<lambda>" (lamQ X) params (.expr body) scope (cloFrom X.env.cells scope.names []) dV doc pm (.ref c') ctv
abbrev lamObj (X : Cx) (params : Arguments) (body : Expr) (scope : Scope) (dV doc pm : Value) (c' : Addr) (ctv : Value) : Obj := { cls := .type "function", data := .func (lamFd X params body scope dV doc pm c' ctv) }
section
variable {X : Cx} {pins : List (Addr × Obj)} {σ : L2.St} {H : Hp} {s : Shared}
theorem lam_tail {T : List (Addr × Str)} {c P : Addr} {params : Arguments} {body : Expr} {scope : Scope} {pos : Pos} {dV : Value} {ln : Nat} {E : Value → Shared → Prop} {Q : Value → Shared → Prop} (I : Inv X pins σ H s) (TB : TabB X.base X.mg c P) (hcode : X.env.code = .ref c)
    (hm : (P, lamQ X) ∈ T) (hu : ∀ p ∈ T, p.1 = P → p.2 = lamQ X) (hT : Tabs T H) (hfree : ∀ y ∈ scope.names, y.2 = .free → ∃ c, X.env.cells.lookup y.1 = some c)
    (h : ∀ (f c' : Addr) (doc pm ctv : Value) (H1 : Hp) (s' : Shared), Inv X pins σ H1 s' → (∀ b o, H b = some o → b ≠ P → H1 b = some o) → Tabs T H1 → s'.heap.get? f = some (lamObj X params body scope dV doc pm c' ctv) → H1 f = none → f ∉ frs X.stack → H1 c' = some (CodeO c' (lamQ X)) →
      (∀ b o, s.heap.get? b = some o → b ≠ P → s'.heap.get? b = some o) → (∀ b, b < s.heap.objs.size → H b = none → H1 b = none) → Q (.ref f) s') :
    wpAny (model X.prog X.w) X.A (makeTail "<lambda>" (lamQ X) params (.expr body) scope X.env dV .none none pos ln) Q E s := by
  obtain ⟨ps, hP, ht, ha⟩ := hT _ hm
  have bP : s.heap.BuiltinsAt X.mg P := TB.bm.keeps I.bk
  have hPt : s.heap.get? P = some { cls := .none, data := .fields ps } := I.hok P _ hP
  have nfr : ∀ f, s.heap.objs.size ≤ f → f ∉ frs X.stack := fun f hf z => by
    rcases List.mem_cons.mp (I.stkSub _ z) with e | e
    · exact absurd (Nat.lt_of_lt_of_le I.lt hf) (by rw [← e]; exact Nat.lt_irrefl _)
    · exact I.nofs hf e
  cases hc : codeAmong pos ps.toList with
  | none =>
    refine PySem.W.kdv_makeTail (mg := X.mg) (c := c) (P := P) (ps := ps) (closure_ok hfree) I.ok.glob (I.mod.glob.keeps I.bk) hcode (TB.code.keeps I.bk) hPt ht hc TB.gP bP fun c' ctv doc h' tk hx hge hlt hrec htb => ?_
    obtain ⟨c2, oc, vs, t, e2, hoc, hd, hv⟩ := hrec
    cases e2
    have hsz : s.heap.objs.size ≤ h'.objs.size := Nat.le_trans hge (Nat.le_of_lt hlt)
    have nC : H c' = none := I.hok.fresh hge
    have I1 := inv_table (t' := tk) (more := #[rawInt pos.line, rawInt pos.col, .ref c']) (h' := h'.push (lamObj X params body scope dV doc ((X.mg "__name__").getD .none) c' ctv)) I hP
      (fun b o hb e => Heap.get?_push_of_some _ (hx b o hb e)) (Heap.get?_push_of_some _ htb) hge ⟨oc, vs, t, Heap.get?_push_of_some _ hoc, hd, hv⟩
    have hE : ∀ b o, H b = some o → b ≠ P → upd (upd H P (.tbl (ps ++ #[rawInt pos.line, rawInt pos.col, .ref c']))) c' (CodeO c' (lamQ X)) b = some o := fun b o e n => by
      rw [upd_ne (ne_of_none e nC), upd_ne n]; exact e
    have nPC : ∀ {b : Addr} {q : Str}, H b = some (CodeO b q) → b ≠ P := fun {b q} e z => by rw [z, hP] at e; exact codeO_ne ps (Option.some.inj e).symm
    have eL : (ps ++ #[rawInt pos.line, rawInt pos.col, .ref c']).toList = ps.toList ++ [rawInt pos.line, rawInt pos.col, .ref c'] := by simp
    refine h h'.objs.size c' doc ((X.mg "__name__").getD .none) ctv _ _ I1 hE (fun p hp => ?_) (Heap.get?_push_size _ rfl) ?_ (nfr _ hsz) upd_same (fun b o e n => Heap.get?_push_of_some _ (hx b o n e)) (fun b hb n => ?_)
    · by_cases hb : p.1 = P
      · rw [hu p hp hb, hb]
        refine ⟨_, by rw [upd_ne (ne_of_none hP nC), upd_same], by rw [eL]; exact PySem.TriplesOk_snoc _ _ _ _ ht, fun p' cv hcv => ?_⟩
        rw [eL] at hcv
        rcases among_app _ ht hcv with z | z
        · obtain ⟨c0, e1, e2⟩ := ha p' cv z
          exact ⟨c0, e1, hE _ _ e2 (nPC e2)⟩
        · exact ⟨c', z, upd_same⟩
      · obtain ⟨qs, a1, a2, a3⟩ := hT p hp
        refine ⟨qs, hE _ _ a1 hb, a2, fun p' cv hcv => ?_⟩
        obtain ⟨c0, e1, e2⟩ := a3 p' cv hcv
        exact ⟨c0, e1, hE _ _ e2 (nPC e2)⟩
    · have n1 : h'.objs.size ≠ c' := Nat.ne_of_gt hlt
      have n2 : h'.objs.size ≠ P := Nat.ne_of_gt (Nat.lt_of_lt_of_le (Heap.lt_size hPt) hsz)
      rw [upd_ne n1, upd_ne n2]
      exact I.hok.fresh hsz
    · have n1 : b ≠ c' := Nat.ne_of_lt (Nat.lt_of_lt_of_le hb hge)
      have n2 : b ≠ P := fun z => by rw [z, hP] at n; cases n
      rw [upd_ne n1, upd_ne n2]
      exact n
  | some cv =>
    obtain ⟨c', e, hco⟩ := ha pos cv hc
    subst e
    refine PySem.W.kdv_makeTailHit (mg := X.mg) (c := c) (P := P) (ps := ps) (closure_ok hfree) I.ok.glob (I.mod.glob.keeps I.bk) hcode (TB.code.keeps I.bk) hPt ht hc bP fun ctv doc h' tk hx hsz => ?_
    have I1 : Inv X pins σ H { s with heap := h'.push (lamObj X params body scope dV doc ((X.mg "__name__").getD .none) c' ctv), toks := tk } := I.kept fun b o e => Heap.get?_push_of_some _ (hx b o e)
    exact h h'.objs.size c' doc ((X.mg "__name__").getD .none) ctv H _ I1 (fun b o e _ => e) hT (Heap.get?_push_size _ rfl) (I.hok.fresh hsz) (nfr _ hsz) hco (fun b o e _ => Heap.get?_push_of_some _ (hx b o e)) (fun b _ n => n)
/-- what stands of the lambda at s: the function, its code, its default -/
structure LamAt (X : Cx) (params : Arguments) (body : Expr) (scope : Scope) (H : Hp) (s : Shared) (f c' : Addr) : Prop where
  ex : ∃ (dV doc pm ctv : Value), s.heap.get? f = some (lamObj X params body scope dV doc pm c' ctv) ∧ H f = none ∧ f ∉ frs X.stack ∧ H c' = some (CodeO c' (lamQ X)) ∧
    ((params.defaults = [] ∧ dV = .none) ∨ ∃ (z : Int) (t : Tok) (j : Nat) (p : Pos) (T : Addr), params.defaults = [.Constant (.int z) j p] ∧ dV = .ref T ∧ s.heap.get? T = some (PySem.W.kdv_tup [.int z t]) ∧ H T = none ∧ T ∉ frs X.stack)
end
section
variable {X : Cx} {pins : List (Addr × Obj)} {σ : L2.St} {H : Hp} {s : Shared}
/-- the lambda is made -/
theorem lam_make3 {T : List (Addr × Str)} {c P : Addr} {params : Arguments} {body : Expr} {scope : Scope} {pos : Pos} {E : Value → Shared → Prop} {Q : Value → Shared → Prop} (I : Inv X pins σ H s) (TB : TabB X.base X.mg c P) (hcode : X.env.code = .ref c)
    (hm : (P, lamQ X) ∈ T) (hu : ∀ p ∈ T, p.1 = P → p.2 = lamQ X) (hT : Tabs T H) (hfree : ∀ y ∈ scope.names, y.2 = .free → ∃ c, X.env.cells.lookup y.1 = some c) (hk0 : params.kw_defaults = [])
    (hdf : params.defaults = [] ∨ ∃ (z : Int) (j : Nat) (p : Pos), params.defaults = [.Constant (.int z) j p])
    (h : ∀ (f c' : Addr) (H1 : Hp) (s' : Shared), Inv X pins σ H1 s' → (∀ b o, H b = some o → b ≠ P → H1 b = some o) → Tabs T H1 → (∀ b, b < s.heap.objs.size → H b = none → H1 b = none) → LamAt X params body scope H1 s' f c' → Q (.ref f) s') :
    wpAny (model X.prog X.w) X.A (eval (.Lambda params body scope pos) X.env) Q E s := by
  have hP : ∃ ps, H P = some (.tbl ps) := let ⟨ps, e, _⟩ := hT _ hm; ⟨ps, e⟩
  rcases hdf with hd | ⟨z, j, p, hd⟩
  · refine PySem.W.kla_eval (by rw [defaultsOf_eq, hd, hk0]; rfl) ?_
    rw [makeFunction_eq]
    simp only [List.zip_nil_right, List.filterMap_nil, List.isEmpty_nil, if_true, pure_bind]
    exact lam_tail I TB hcode hm hu hT hfree fun f c' doc pm ctv H1 s' I1 k T1 hf hfn hfr hco kp fr => h f c' H1 s' I1 k T1 fr ⟨.none, doc, pm, ctv, hf, hfn, hfr, hco, .inl ⟨hd, rfl⟩⟩
  · refine PySem.W.kdv_lam (by rw [hd]; rfl) hk0 ?_
    rw [hd]
    refine PySem.W.kdv_all1 ?_
    refine wpAny_Constant_int (PySem.W.kdv_all0 ?_)
    rw [makeFunction_eq]
    simp only [List.zip_nil_right, List.filterMap_nil, List.isEmpty_nil, List.isEmpty_cons, Bool.false_eq_true, if_true, if_false, pure_bind]
    refine wpAny_bind (wpAny_newTextTuple ?_)
    have I2 := I.tok (s.toks + 1)
    have kp2 : ∀ b o, s.heap.get? b = some o → (s.heap.push (PySem.W.kdv_tup [.int z s.toks])).get? b = some o := fun b o e => Heap.get?_push_of_some _ e
    have I3 : Inv X pins σ H { s with heap := s.heap.push (PySem.W.kdv_tup [.int z s.toks]), toks := s.toks + 1 } := I.kept kp2
    obtain ⟨ps, hPs⟩ := hP
    have nT : s.heap.objs.size ≠ P := fun z => by
      have q := I.hok.fresh (Nat.le_of_eq z)
      rw [hPs] at q; cases q
    have nfr : s.heap.objs.size ∉ frs X.stack := fun w => by
      rcases List.mem_cons.mp (I.stkSub _ w) with e | e
      · exact absurd I.lt (by rw [← e]; exact Nat.lt_irrefl _)
      · exact I.nofs (Nat.le_refl _) e
    have hsz : (s.heap.push (PySem.W.kdv_tup [.int z s.toks])).objs.size = s.heap.objs.size + 1 := Heap.size_push _ _
    refine lam_tail I3 TB hcode hm hu hT hfree fun f c' doc pm ctv H1 s' I1 k T1 hf hfn hfr hco kp fr => ?_
    refine h f c' H1 s' I1 k T1 (fun b hb n => fr b (Nat.lt_of_lt_of_le hb (by show _ ≤ (s.heap.push _).objs.size; rw [hsz]; omega)) n) ⟨.ref s.heap.objs.size, doc, pm, ctv, hf, hfn, hfr, hco, .inr ⟨z, s.toks, j, p, s.heap.objs.size, hd, rfl, ?_, ?_, nfr⟩⟩
    · exact kp _ _ (Heap.get?_push_size _ rfl) nT
    · exact fr _ (by show _ < (s.heap.push _).objs.size; rw [hsz]; omega) (I.hok.fresh (Nat.le_refl _))
end
end LamD

/-! X7: the lambda's run in the def that got it -/
namespace LamD
open PySem PySem.Spec PyProof.Rows L2 LamX
/-- the lambda's names: captured ones, globals, parameters that the maker doesn't know -/
structure LamN (N : List Str) (sc scope : Scope) : Prop where
  kind : scope.kind = .function
  co : scope.isCoroutine = false
  gen : scope.isGenerator = false
  nocell : ∀ y ∈ scope.names, y.2 ≠ .cell
  own : ∀ y ∈ scope.names, y.2 = .local → y.1 ∉ N
  free : ∀ y ∈ scope.names, y.2 = .free → sc.names.lookup y.1 = some .cell ∨ sc.names.lookup y.1 = some .free
def lamNB (N : List Str) (sc scope : Scope) : Bool :=
  decide (scope.kind = .function) && !scope.isCoroutine && !scope.isGenerator && scope.names.all fun y => !decide (y.2 = .cell) && (!decide (y.2 = .local) || !N.contains y.1) && (!decide (y.2 = .free) || decide (sc.names.lookup y.1 = some .cell) || decide (sc.names.lookup y.1 = some .free))
theorem lamN_by {N : List Str} {sc scope : Scope} (h : lamNB N sc scope = true) : LamN N sc scope := by
  unfold lamNB at h
  simp only [Bool.and_eq_true, Bool.or_eq_true, Bool.not_eq_true', decide_eq_true_eq, decide_eq_false_iff_not, List.all_eq_true] at h
  obtain ⟨⟨⟨h1, h2⟩, h3⟩, h4⟩ := h
  refine ⟨h1, h2, h3, fun y hy => (h4 y hy).1.1, fun y hy e => ?_, fun y hy e => ?_⟩
  · rcases (h4 y hy).1.2 with z | z
    · exact absurd e z
    · intro hm
      rw [List.contains_iff_mem.mpr hm] at z
      cases z
  · rcases (h4 y hy).2 with (z | z) | z
    · exact absurd e z
    · exact .inl z
    · exact .inr z
theorem LamN.has {X : Cx} {scope : Scope} (L : LamN X.N X.env.scope scope) (ok : X.Ok) : ∀ y ∈ scope.names, y.2 = .free → ∃ c, X.env.cells.lookup y.1 = some c := fun y hy e => by
  rcases L.free y hy e with k | k
  · exact ok.has _ (.inl k)
  · exact ok.has _ (.inr k)
/-- what a call without arguments binds -/
structure LamB (params : Arguments) (body : Expr) (scope : Scope) : Prop where
  none_ : params.defaults = [] → ∀ (q : Str) (cl : List (Str × Addr)) (doc pm cv ctv : Value), bindArgs (PySem.W.kdv_fn "<lambda>" q params (.expr body) scope cl .none doc pm cv ctv) ⟨[], []⟩ = pure []
  one : ∀ (z : Int) (j : Nat) (p : Pos), params.defaults = [.Constant (.int z) j p] → ∃ a : Str, scope.names.lookup a = some .local ∧ ∀ (q : Str) (cl : List (Str × Addr)) (doc pm cv ctv : Value) (T : Addr), ∃ k : Option (Array Value) → Sem (List (Str × Value)),
    bindArgs (PySem.W.kdv_fn "<lambda>" q params (.expr body) scope cl (.ref T) doc pm cv ctv) ⟨[], []⟩ = seqItems? (.ref T) >>= k ∧ ∀ v, k (some #[v]) = pure [(a, v)]
section
variable {X : Cx} {pins : List (Addr × Obj)} {σ : L2.St} {H HZ : Hp} {s s1 : Shared}
theorem lam_start3 {A : Around} {outer : List Env} {E : XK} {scope : Scope} {f c' : Addr} {h₁ : Heap} {tk : Nat} {binds : List (Str × Value)} (I : Inv X pins σ H s) (L : LamN X.N X.env.scope scope) (e0 : Env0 X.prog X.w X.K X.mg X.base A outer s1 HZ) (hd : A.handled = none)
    (un : Un (frs X.stack) [] H HZ s.heap s1.heap) (hns : h₁.Ns s1.heap.objs.size fun y => binds.reverse.lookup y) (kp : ∀ b o, s1.heap.get? b = some o → h₁.get? b = some o) :
    Inv (lamCx X A outer s1 HZ E scope f c') [] σ HZ { s1 with heap := h₁, toks := tk } := by
  have hfree := L.has I.ok
  have cm : ∀ {y c}, (cloFrom X.env.cells scope.names []).lookup y = some c → X.env.cells.lookup y = some c := fun {y c} e => by
    rcases cloFrom_mem (PySem.mem_of_lookup e) with q | ⟨q1, q2⟩
    · cases q
    · obtain ⟨c1, hc⟩ := hfree _ q1 rfl
      have hc' : X.env.cells.lookup y = some c1 := hc
      have e2 : c = c1 := by rw [q2, hc'] <;> rfl
      rw [e2]; exact hc'
  have look : ∀ {y}, scope.names.lookup y = some .free → ∃ c, (cloFrom X.env.cells scope.names []).lookup y = some c := fun {y} hl =>
    mem_lookup (cloFrom_has (cells := X.env.cells) (acc := []) (show (y, NameKind.free) ∈ scope.names from PySem.mem_of_lookup hl))
  have cellK : ∀ {c : Addr} {v : Option Value}, H c = none → s.heap.IsCell c v → h₁.IsCell c v := fun {c v} n ⟨o, ho, q⟩ => by
    obtain ⟨sl, w⟩ := un.any ho n (by simp)
    exact ⟨_, kp _ _ w, q⟩
  have noA : ∀ b : Addr, b ∉ (lamCx X A outer s1 HZ E scope f c').ex := fun b z => absurd (show b ∈ ([] : List Addr) from z) (by simp)
  refine ⟨⟨e0.mod, L.kind, rfl, rfl, Nat.le_refl _, fun y z c e1 e2 => I.ok.inj y z c (cm e1) (cm e2), fun y hy => ?_, fun y c z _ => ?_, fun _ => hd, Around.frames_deeper e0.frames, .inr ⟨rfl, rfl⟩, fun b z => absurd z (noA b), e0.bs, e0.bsz, fun b _ _ => noA b, fun b z => absurd z (noA b), e0.funs, e0.frf⟩,
    rfl, e0.bare, Un.kept kp, ⟨_, hns, fun i y v e1 e2 e3 => ?_⟩, fun y c e => ?_, e0.hok.fresh (Nat.le_refl _), fun y c e => ?_, fun q hq => absurd (show q ∈ ([] : List (Addr × Obj)) ++ [] from hq) (by simp), e0.hok.kept kp, I.len⟩
  · rcases (show scope.names.lookup y = some .cell ∨ scope.names.lookup y = some .free from hy) with w | w
    · exact absurd rfl (L.nocell _ (PySem.mem_of_lookup w))
    · exact look w
  · have w : false = true := z
    cases w
  · have e3' : Vis scope y := e3
    rcases e3' with k | k | k
    · exact absurd (List.mem_of_getElem? (show X.N[i]? = some y from e1)) (L.own _ (PySem.mem_of_lookup k) rfl)
    · exact absurd rfl (L.nocell _ (PySem.mem_of_lookup k))
    · obtain ⟨m, hn, hl⟩ := I.loc
      have hvis : Vis X.env.scope y := (L.free _ (PySem.mem_of_lookup k) rfl).elim (fun k => .inr (.inl k)) (fun k => .inr (.inr k))
      obtain ⟨w', r, q⟩ := hl i y v e1 e2 hvis
      obtain ⟨c2, q2⟩ := look k
      refine ⟨w', r, .inr ⟨.inr k, c2, q2, ?_⟩⟩
      have c1 := cm q2
      rcases q with ⟨k', _⟩ | ⟨_, c3, e', z⟩
      · have k2 : X.env.scope.names.lookup y = some .local := k'
        rcases L.free _ (PySem.mem_of_lookup k) rfl with k3 | k3 <;> rw [show X.env.scope.names.lookup y = _ from k3] at k2 <;> cases k2
      · rw [c1] at e'
        cases e'
        exact cellK (I.freeC y _ c1) z
  · obtain ⟨w', z⟩ := I.cell y c (cm e)
    exact ⟨w', cellK (I.freeC y c (cm e)) z⟩
  · obtain ⟨v, o, ho, q⟩ := I.cell y c (cm e)
    exact un.free c o ho (I.freeC y c (cm e)) (by simp)
/-- a(), in the def that got the lambda -/
theorem pe_act3 {CXg : CXT} {Eg : XK} {Ng : List Str} {qg : Str} {sg : Scope} {g f c' : Addr} {cdg : Value} {params : Arguments} {body : Expr} {scope : Scope} {k i : Nat} {a : Str} {pn : List (Addr × Obj)} {xe : Value → Shared → Prop} {W : WX} {tb : XK → TE} {p1 p2 : Pos}
    (I : Inv X pins σ H s) (L : LamN X.N X.env.scope scope) (B : LamB params body scope) (M : LamAt X params body scope H s f c')
    (tk : Takes ((cxOf CXg X.prog X.w X.K X.mg X.base Ng qg sg g cdg X.A X.stack s H Eg).tr pn xe) W) (hr : Room (k + 1) (X.A.deeper (envOfC qg sg s.heap.objs.size g cdg)))
    (hbody : ∀ (E : XK) (A : Around) (outer : List Env) (s : Shared) (H : Hp), Room k (A.deeper (lamEnv X scope s.heap.objs.size f c')) → PE (lamCx X A outer s H E scope f c') body (tb E))
    (hN : Ng[i]? = some a) (hv : Vis sg a) (hd : (a == ("__debug__" : Str)) = false := by decide) (hcd : (a == ("__classdict__" : Str)) = false := by decide) :
    PE ((cxOf CXg X.prog X.w X.K X.mg X.base Ng qg sg g cdg X.A X.stack s H Eg).tr pn xe) (.Call (.Name a p1) [] [] p2)
      (fun σZ HZ Q => σZ[i]? = some (some (.ref f)) ∧ HZ c' = some (CodeO c' (lamQ X)) ∧ tb (L2.WE W σZ) σ HZ Q) := by
  obtain ⟨dV, doc, pm, ctv, hf, hfn, hfr, hco, hdf⟩ := M.ex
  refine ⟨fun pinsZ sZ σZ HZ Q IZ h => ?_⟩
  obtain ⟨hs, hc, ht⟩ := h
  refine wpAny_Call_Name_kw (thn ((pe_var (pos := p1) (i := i) hN hv hd hcd).run pinsZ sZ σZ HZ (fun v H1 => v = .ref f ∧ H1 = HZ) IZ ⟨.ref f, hs, rfl, rfl⟩) fun u s1 ⟨v, H1, I1, r1, ev, eH⟩ => ?_)
  subst ev
  rw [eH] at I1
  obtain rfl : u = Value.ref f := r1
  have keepU : ∀ {b : Addr} {o : Obj}, s.heap.get? b = some o → H b = none → b ∉ frs X.stack → s1.heap.get? b = some o := fun {b o} e n nf => I1.base.keep b o e n nf (fun z => nomatch (show b ∈ ([] : List Addr) from z))
  have of1 := keepU hf hfn hfr
  refine PySem.W.callWith_F0 ⟨_, _, _, _, of1⟩ ?_
  have un : Un (frs X.stack) [] H HZ s.heap s1.heap := I1.base
  obtain ⟨⟨oc, vs, t, hoc, hdc, hvc⟩, _, _⟩ := I1.hok c' _ hc
  obtain ⟨binds, hbt, hbl⟩ : ∃ binds : List (Str × Value), BindsTo s1 (lamFd X params body scope dV doc pm c' ctv) ⟨[], []⟩ binds ∧ ∀ x ∈ binds, scope.names.lookup x.1 = some .local := by
    rcases hdf with ⟨h0, rfl⟩ | ⟨z, t0, j, p, T, h0, rfl, hT, hTn, hTf⟩
    · exact ⟨[], .of_eq (B.none_ h0 _ _ _ _ _ _), fun x hx => by cases hx⟩
    · obtain ⟨b, hb, hk⟩ := B.one z j p h0
      obtain ⟨kk, e1, e2⟩ := hk (lamQ X) (cloFrom X.env.cells scope.names []) doc pm (.ref c') ctv T
      refine ⟨[(b, .int z t0)], BindsTo.of_defaults (T := T) rfl (keepU hT hTn hTf) rfl e1 (e2 _), fun x hx => ?_⟩
      obtain rfl := List.mem_singleton.mp hx
      exact hb
  have rc : codeAny (model X.prog X.w) (X.A.deeper (envOfC qg sg s.heap.objs.size g cdg)) (.call (.ref f) ⟨[], []⟩) (CR (L2.CX X.prog X.w) (envOfC qg sg s.heap.objs.size g cdg :: X.stack) X.prog X.w HZ s1 Q (L2.WE W σZ)) s1 := by
    refine PySem.W.kla_callFunE hr.depth of1 rfl L.co L.gen rfl ⟨c', oc, vs, t, rfl, hoc, hdc, hvc⟩ ?_
    refine hbt _ _ _ _ (wpAny_newFunctionEnv L.nocell hbl (fun h₁ hns hsb => ⟨I1.nolimit.fresh _ hsb, ?_⟩) L.kind)
    show codeAny _ _ (.expr body (lamEnv X scope s1.heap.objs.size f c')) _ _
    have kp : ∀ b o, s1.heap.get? b = some o → h₁.get? b = some o := fun b o e => hsb.extBut b o (Nat.ne_of_lt (Heap.lt_size e)) (Heap.get?_push_of_some _ e)
    have J : Inv (lamCx X (X.A.deeper (envOfC qg sg s.heap.objs.size g cdg)) (envOfC qg sg s.heap.objs.size g cdg :: X.stack) s1 HZ (L2.WE W σZ) scope f c') [] σ HZ { s1 with heap := h₁, toks := s1.toks + binds.length } :=
      lam_start3 I L I1.env0 hr.hd un hns kp
    refine PySem.W.kla_codeExpr (wpAny_mono ((hbody _ _ _ s1 HZ (hr.deeper _)).run [] _ _ HZ Q J ht) (fun v s' hq => ?_) fun e s' hq => hq)
    obtain ⟨w', H', J', rv, q⟩ := hq
    exact ⟨w', H', J'.os, J'.bare, J'.base, J'.hok, rv, q⟩
  have hx := passAt tk σZ
  refine wpAny_call (codeAny_mono rc fun r s' hq => ?_)
  cases r with
  | error e => exact hx pinsZ HZ s1 e s' I1 hq
  | ok fl =>
    cases fl with
    | ret u => exact I1.after hq
    | next => exact False.elim hq
    | brk => exact False.elim hq
    | cont => exact False.elim hq
end
end LamD

/-! X8: a def that gets a lambda, over data -/
namespace X1
open PySem PySem.Spec PyProof.Rows L2 L3 LamX LamD
/-- what a call without arguments makes: of its value, of its exception -/
abbrev Tau := (D → Prop) → (XV → Prop) → Prop
/-- a(), a the thing that was handed -/
def dThunk (i : Nat) (f : Addr) (τ : Tau) : TDE := fun Xd e Q => e[i]? = some (.d (fnD f)) ∧ τ (fun d => Q (.d d) e) (fun x => Xd x e)
/-- arguments of the call in the lambda: a slot of the maker, a constant -/
inductive LA where
  | v (i : Nat)
  | k (d : D) (x : V)
  | ix (i : Nat) (j : Int)
def laD : List LA → List S → Option (List D)
  | [], _ => some []
  | .v i :: r, e => match e[i]? with
    | some (.d d) => (laD r e).map (d :: ·)
    | _ => none
  | .k d _ :: r, e => (laD r e).map (d :: ·)
  | .ix i j :: r, e => match e[i]? with
    | some (.d (.lst xs)) => match L2.atI xs j with
      | some d => (laD r e).map (d :: ·)
      | none => none
    | _ => none
def laT (K : PySem.W.Frag) : List LA → TA
  | [] => tNil
  | .v i :: r => tCons (tVar i) (laT K r)
  | .k _ x :: r => tCons (tC x) (laT K r)
  | .ix i j :: r => tCons (tOp (rIx K) (tVar i) (tC (.int j))) (laT K r)
def laOk (K : PySem.W.Frag) : List LA → Prop
  | [] => True
  | .v _ :: r => laOk K r
  | .k d x :: r => (∀ G, RepD K G d x) ∧ laOk K r
  | .ix _ _ :: r => laOk K r
theorem la_run {K : PySem.W.Frag} {c : C0} {G H : Hp} {σ : L2.St} {e : List S} (rel : Rel K c G H σ e) : ∀ {las : List LA} {ds : List D}, laOk K las → laD las e = some ds → ∃ vs, RepDs K G ds vs ∧ ∀ (H' : Hp) (Q : List V → Hp → Prop), Same G H' → Q vs H' → laT K las σ H' Q
  | [], _, _, h => by cases h; exact ⟨[], .nil, fun H' Q _ q => q⟩
  | .v i :: r, ds, ok, h => by
    unfold laD at h
    split at h
    · rename_i d hd
      obtain ⟨ds', e1, rfl⟩ := Option.map_eq_some_iff.mp h
      obtain ⟨vs, r1, r2⟩ := la_run rel (las := r) ok e1
      obtain ⟨v, hv, rd⟩ := rel.sl i _ hd
      have hσ : σ[i]? = some (some v) := by
        cases q : σ[i]? with
        | none => rw [q] at hv; cases hv
        | some o => rw [q] at hv; rw [show o = some v from hv]
      exact ⟨v :: vs, .cons rd r1, fun H' Q g q => ⟨v, hσ, r2 H' _ g q⟩⟩
    · cases h
  | .k d x :: r, ds, ok, h => by
    unfold laD at h
    obtain ⟨ds', e1, rfl⟩ := Option.map_eq_some_iff.mp h
    obtain ⟨vs, r1, r2⟩ := la_run rel (las := r) ok.2 e1
    exact ⟨x :: vs, .cons (ok.1 G) r1, fun H' Q g q => r2 H' _ g q⟩
  | .ix i j :: r, ds, ok, h => by
    unfold laD at h
    split at h
    · rename_i xs hd
      split at h
      · rename_i d hj
        obtain ⟨ds', e1, rfl⟩ := Option.map_eq_some_iff.mp h
        obtain ⟨vs, r1, r2⟩ := la_run rel (las := r) ok e1
        obtain ⟨v, hv, rd⟩ := rel.sl i _ hd
        have hσ : σ[i]? = some (some v) := by
          cases q : σ[i]? with
          | none => rw [q] at hv; cases hv
          | some o => rw [q] at hv; rw [show o = some v from hv]
        cases rd with
        | @lst a ws _ k1 k2 =>
          obtain ⟨u, hu, ru⟩ := k2.atI hj
          exact ⟨u :: vs, .cons ru r1, fun H' Q g q => ⟨.ref a, hσ, .inl ⟨_, _, _, _, rfl, rfl, .inl (.inl (g _ _ k1)), hu, r2 H' _ g q⟩⟩⟩
      · cases h
    · cases h
/-- the promise asked of data alone -/
def tauOf (sp : SpD) (ds : List D) : Tau := fun P Z => sp (ds.map S.d) (fun d _ => P d) (fun x _ => Z x)
theorem dv_fn {K : PySem.W.Frag} {G : Hp} {f : Addr} {v : V} (h : RepD K G (fnD f) v) : v = .ref f := by
  have ne1 : ("fn" : Str) ≠ "[]" := by decide
  have ne2 : ("fn" : Str) ≠ "!" := by decide
  unfold fnD at h
  generalize ed : D.ins f ["fn"] [] = d at h
  cases h with
  | ins hn _ _ _ =>
    cases ed
    have : okF ["fn"] = false := by decide
    rw [this] at hn; cases hn
  | scr _ _ => exact absurd (congrArg (fun d => match d with | D.ins _ (x :: _) _ => x | _ => "") ed) ne1
  | exn _ _ _ _ => exact absurd (congrArg (fun d => match d with | D.ins _ (x :: _) _ => x | _ => "") ed) ne2
  | fn => cases ed; rfl
  | non => cases ed
  | bl _ => cases ed
  | int _ => cases ed
  | str _ => cases ed
  | tup _ _ => cases ed
  | lst _ _ => cases ed
  | dct _ _ _ => cases ed
section
variable {Z : Cx} {c : C0} {W : WX} {f c' : Addr} {q : Str} {n : Nat} {sp : SpD} {ds : List D} {vs : List V} {p1 p2 : Pos} {a : Str} {σ0 : L2.St} {las : List LA}
theorem de_thunk (hc' : c.H0 c' = some (CodeO c' q)) (hrf : ¬ c.rf c') (htb : c' ∉ c.tb) (rd : RepDs Z.K c.G0 ds vs) (hl : ds.length = n) (hla : ∀ (H' : Hp) (Q : List V → Hp → Prop), Same c.G0 H' → Q vs H' → laT Z.K las σ0 H' Q)
    (hp : PE Z (.Call (.Name a p1) [] [] p2) (fun σZ HZ Q => σZ[0]? = some (some (.ref f)) ∧ HZ c' = some (CodeO c' q) ∧ tCallSD (spOf Z.K n sp) [] (fun _ => L2.WE W σZ) (laT Z.K las) σ0 HZ Q)) : DE Z c W (.Call (.Name a p1) [] [] p2) (dThunk 0 f (tauOf sp ds)) := by
  refine ⟨PE.imp hp fun σ H Q ⟨G, e, Qd, Xd, rel, ⟨h0, h⟩, hQ, hX⟩ => ?_⟩
  obtain ⟨v, hv, rf⟩ := rel.sl 0 _ h0
  obtain rfl := dv_fn rf
  have hσ : σ[0]? = some (some (.ref f)) := by
    cases w : σ[0]? with
    | none => rw [w] at hv; cases hv
    | some o => rw [w] at hv; rw [show o = _ from hv]
  refine ⟨hσ, rel.keep _ _ hc' hrf htb, hla H _ (rel.gsub.trans rel.gh) ?_⟩
  rw [List.append_nil]
  exact call_data rel (rd.mono rel.gsub) hl h hQ hX
end
end X1
namespace X1
open PySem PySem.Spec PyProof.Rows L2 L3 LamX LamD
def dHeard (n : Nat) (sp : SpD) (las : List LA) (hv : D → D) (hx : XV → Option D) : TDE := fun _ e Q => ∃ ds, laD las e = some ds ∧ ds.length = n ∧ tauOf sp ds (fun d => Q (.d (hv d)) e) (fun x => ∃ r, hx x = some r ∧ Q (.d r) e)
/-- the context of the def that gets the lambda -/
abbrev heardCx (X : Cx) (Ng : List Str) (x : Str) (sg : Scope) (g : Addr) (cdv : Value) (s : Shared) (H : Hp) : Cx := cxOf (L2.CX X.prog X.w) X.prog X.w X.K X.mg X.base Ng x sg g cdv X.A X.stack s H (fun _ _ _ => False)
section
variable {X : Cx} {c : C0} {W : WX} {x a gn : Str} {g cda P : Addr} {k n : Nat} {pg : Arguments} {bg : List Stmt} {sg : Scope} {dV kV doc pm cdv ct oc : Value} {an od : Option Addr} {osl : Array (Option Value)} {Ng : List Str} {params : Arguments} {scope : Scope} {p lpos pos pp pos2 : Pos}
  {e1 : Expr} {es : List Expr} {sp : SpD} {las : List LA} {hv : D → D} {hx : XV → Option D} {tH : Addr → Tau → TDS}
theorem de_heard (hg : Gl X x) (hm : X.mg x = some (.ref g)) (hk : PySem.W.keepIn X.K (.ref g) = true) (lk : X.K.lookup g = some ⟨oc, od, .func (PySem.W.fnOf x x pg bg sg dV kV doc pm an cdv ct), osl⟩) (hcg : PySem.W.codeIn X.K cdv x = true) (hb : L2.Binds X.K (PySem.W.fnOf x x pg bg sg dV kV doc pm an cdv ct) [a] [])
    (Sg : FnScope Ng [a] sg) (hNg : Ng[0]? = some a) (hva : Vis sg a) (TB : TabB X.base X.mg cda P) (hcode : X.env.code = .ref cda) (hT : c.T = [(P, lamQ X)]) (hr : Room (k + 2) X.A) (L : LamN X.N X.env.scope scope) (B : LamB params (.Call (.Name gn pp) (e1 :: es) [] pos2) scope) (hk0 : params.kw_defaults = [])
    (hdf : params.defaults = [] ∨ ∃ (z : Int) (j : Nat) (p : Pos), params.defaults = [.Constant (.int z) j p]) (C : Cal X.prog X.w X.K X.mg X.base k gn n sp []) (ok : laOk X.K las) (hgl : scope.names.lookup gn = some .globalImplicit)
    (hargs : ∀ (A : Around) (outer : List Env) (s : Shared) (H : Hp) (E : XK) (f c' : Addr), PA (lamCx X A outer s H E scope f c') (e1 :: es) (laT X.K las))
    (he : ∀ env : Env, starEach (e1 :: es) env = (false, eval e1 env) :: starEach es env) (hpl : ∀ env : Env, (backTo pos2 (starEach es env)).any (·.1) = false)
    (hder : ∀ (f : Addr) (ds : List D) (s : Shared) (H : Hp) (c2 : C0), Room k (X.A.deeper (envOfC x sg s.heap.objs.size g cdv)) → Takes (heardCx X Ng x sg g cdv s H) (WE0 fun _ _ _ => False) → PassesOwn (model X.prog X.w) (heardCx X Ng x sg g cdv s H).A (heardCx X Ng x sg g cdv s H).env (heardCx X Ng x sg g cdv s H).xe →
      (∀ (p1 p2 : Pos) (W' : WX) (pn : List (Addr × Obj)) (xe : Value → Shared → Prop), Takes ((heardCx X Ng x sg g cdv s H).tr pn xe) W' → DE ((heardCx X Ng x sg g cdv s H).tr pn xe) c2 W' (.Call (.Name a p1) [] [] p2) (dThunk 0 f (tauOf sp ds))) →
      DSs (heardCx X Ng x sg g cdv s H) c2 (WE0 fun _ _ _ => False) bg (tH f (tauOf sp ds)))
    (hH : ∀ (f : Addr) (ds : List D) (Qd : D → Prop), tauOf sp ds (fun d => Qd (hv d)) (fun x => ∃ r, hx x = some r ∧ Qd r) → tH f (tauOf sp ds) (fun _ _ => False) { nx := fun _ => Qd .non, rt := fun d _ => Qd d } (startE Ng.length [.d (fnD f)]))
    (hda : (a == ("__debug__" : Str)) = false) (hca : (a == ("__classdict__" : Str)) = false) (hdx : (x == ("__debug__" : Str)) = false) (hdg : (gn == ("__debug__" : Str)) = false) :
    DE X c W (.Call (.Name x p) [.Lambda params (.Call (.Name gn pp) (e1 :: es) [] pos2) scope lpos] [] pos) (dHeard n sp las hv hx) := by
  refine ⟨⟨fun pins s σ H Q I h => ?_⟩⟩
  obtain ⟨G, e, Qd, Xd, rel, ⟨ds, hds, hn, hτ⟩, hQ, hX⟩ := h
  obtain ⟨vs, rdv, hla⟩ := la_run rel ok hds
  have htb : c.tb = [P] := by unfold C0.tb; rw [hT]; rfl
  have hGP : G P = none := rel.gt P (by rw [htb]; simp)
  have tabs : Tabs [(P, lamQ X)] H := by have := rel.tabs; rw [hT] at this; exact this
  refine wpAny_Call_Name_kw (ld_glob I hg hm ?_ hdx)
  refine PySem.W.callWith_K (h₀ := X.base) I.ok.mod.kin hk ?_ (by rfl) (by rfl)
  show wpAny _ _ (spliced ((false, eval (.Lambda params (.Call (.Name gn pp) (e1 :: es) [] pos2) scope lpos) X.env) :: backTo pos (starEach [] X.env))) _ _ s
  refine Calls.spliced_cons (lam_make3 I TB hcode (List.mem_singleton.mpr rfl) (fun q hq z => by rw [List.mem_singleton.mp hq]) tabs (L.has I.ok) hk0 hdf fun f c' H1 s' I1 kp T1 fr M => ?_)
  refine Calls.spliced_nil ⟨I1.kIn, ?_⟩
  obtain ⟨_, _, _, _, _, hfn, hfr, hco, _⟩ := M.ex
  -- the maker's own state behind the making
  have kp' : ∀ b o, H b = some o → b ∉ c.tb → H1 b = some o := fun b o q nb => kp b o q fun z => nb (by rw [htb, z]; simp)
  have thP : H1 P ≠ none := by obtain ⟨ps, q, _⟩ := T1 (P, lamQ X) (List.mem_singleton.mpr rfl); rw [show H1 P = _ from q]; simp
  have gh1 : Same G H1 := fun b o q => kp b o (rel.gh b o q) fun z => by rw [z, hGP] at q; cases q
  have rel1 : Rel X.K c G H1 σ e := ⟨rel.len, fun i t q => (rel.sl i t q).mono (Same.refl _) fun b o ho hv' hb' => kp' b o hb' (rel.ownT ⟨i, t, q, ho, by
      cases w : σ[i]? with
      | none => rw [w] at hv'; cases hv'
      | some u => rw [w] at hv'; rw [show u = _ from hv']⟩), gh1, fun b o q1 q2 q3 => kp' b o (rel.keep b o q1 q2 q3) q3, rel.gsub, rel.gnew, rel.own, rel.inj, rel.rfs, rel.ln, by rw [hT]; exact T1, rel.gt⟩
  have st1 : L3.Step X.K c σ G H e G H1 e := ⟨rel1, Same.refl _, fun b o q _ nb => kp' b o q nb, fun b q => .inl q, fun b q => q, fun b q => by
    by_cases z : b = P
    · rw [z]; exact thP
    · cases w : H b with
      | none => exact absurd w q
      | some o => rw [kp b o w z]; simp, rel.tabs⟩
  -- the def's run
  have rc : codeAny (model X.prog X.w) X.A (.call (.ref g) ⟨[.ref f], []⟩) (CR (L2.CX X.prog X.w) X.stack X.prog X.w H1 s' Q fun _ _ _ => False) s' := by
    refine run_ofS (N := Ng) (ps := [a]) (us := [.ref f]) (vs := [.ref f]) lk hcg Sg hr I1.env0 (hb s' [.ref f] I1.kIn rfl) (.cons rfl .nil) rfl fun hr' => ?_
    have hN : ([V.ref f] : List V).length ≤ Ng.length := (List.getElem?_eq_some_iff.mp hNg).1
    have ar : ArgRel X.K G H1 [.ref f] [.d (fnD f)] := by
      refine ⟨rfl, fun i t q => ?_, gh1, fun i t b q o => ?_, fun i j t u b q _ o => ?_, fun i t q o => ?_⟩
      · cases i with
        | zero => cases q; exact ⟨.ref f, rfl, .fn⟩
        | succ i => simp at q
      all_goals
        cases i with
        | zero => cases q; cases o
        | succ i => simp at q
    have nrf : ¬ C0.rf ⟨H1, G, adOf [.ref f] [.d (fnD f)], Ng.length, []⟩ c' := fun ⟨i, q⟩ => by
      obtain ⟨t, q1, q2, _⟩ := adOf_some q
      cases i with
      | zero => cases q1; cases q2
      | succ i => simp at q1
    obtain ⟨fC, fdC, psC, dvs, dsv, hps, FC, hmC, hkC, hbC, hdC, hddC⟩ := C.ex
    have e0 : dvs = [] := by
      have := (hddC fun _ => none).length
      simpa using this.symm
    subst e0
    cases hdC
    have hd := hder f ds s' H1 ⟨H1, G, adOf [.ref f] [.d (fnD f)], Ng.length, []⟩ (hr'.mono (Nat.le_succ k)) (takes_of rfl rfl rfl rfl) (passes_of rfl) fun p1 p2 W' pn xe tk' =>
      de_thunk (Z := (heardCx X Ng x sg g cdv s' H1).tr pn xe) hco nrf tb_nil rdv hn hla
        (pe_act3 I1 L B M tk' hr' (fun E A outer s0 H0 hr0 => pe_callSD (X := lamCx X A outer s0 H0 E scope f c') FC hr0 hgl hmC hkC hbC .nil (fun σ0 => passAt (W := fun cls d _ H => E cls d H) (takes_of rfl rfl rfl rfl) σ0) (hargs A outer s0 H0 E f c') hdg (he _) (hpl _)) hNg hva hda hca)
    have law : ∀ {σ' : L2.St} {G' H' : Hp} {e' : List S} {d : D} {v : V}, Rel X.K ⟨H1, G, adOf [.ref f] [.d (fnD f)], Ng.length, []⟩ G' H' σ' e' → RepD X.K G' d v → Qd (.d d) e → Q v H' := fun {σ' G' H' e' d v} r' rd' q => by
      have cs := ar.fin hN r'
      have nob : ∀ b, ¬ ByRef [.ref f] [.d (fnD f)] b := fun b ⟨i, t, q1, q2, _⟩ => by
        cases i with
        | zero => cases q1; cases q2
        | succ i => simp at q1
      have st2 := Step.ext rel1 (fun b o w => cs.fr b o w (nob b)) cs.sg cs.ar.gh cs.gn
      exact hQ (.d d) e v G' H' (st1.trans rel st2) rd' q
    exact ⟨_, hd.pss, G, startE Ng.length [.d (fnD f)], _, _, ar.begin_ hN, hH f ds (fun d => Qd (.d d) e) hτ, ⟨fun σ' G' H' e' r' sg' q => law r' .non q, fun d v σ' G' H' e' r' sg' rd' q => law r' rd' q, fun _ _ _ _ _ _ z => z.elim, fun _ _ _ _ _ _ z => z.elim, fun _ _ _ _ _ _ _ _ _ _ z => z.elim⟩⟩
  refine wpAny_call (codeAny_mono rc fun r s2 hq => ?_)
  cases r with
  | error er =>
    obtain ⟨_, _, _, _, _, _, _, _, _, _, _, _, z⟩ := hq
    exact z.elim
  | ok fl =>
    cases fl with
    | ret u => exact I1.after hq
    | next => exact False.elim hq
    | brk => exact False.elim hq
    | cont => exact False.elim hq
end
end X1

/-! X9: repr of data without dicts -/
namespace X1
open PySem PySem.Spec PyProof.Rows L2 L3
mutual
def toPy : D → PyData
  | .non => .none
  | .bl b => .bool b
  | .int i => .int i
  | .str x => .str x
  | .tup xs => .tuple (toPys xs)
  | .lst xs => .list (toPys xs)
  | .dct _ _ => .none
  | .ins _ _ _ => .none
def toPys : List D → List PyData
  | [] => []
  | d :: r => toPy d :: toPys r
end
mutual
def noD : D → Bool
  | .tup xs => noDs xs
  | .lst xs => noDs xs
  | .dct _ _ => false
  | .ins _ _ _ => false
  | _ => true
def noDs : List D → Bool
  | [] => true
  | d :: r => noD d && noDs r
end
mutual
theorem toPy_nodict : ∀ d : D, (toPy d).hasDict = false
  | .non => rfl
  | .bl _ => rfl
  | .int _ => rfl
  | .str _ => rfl
  | .tup xs => by simp only [toPy, PyData.hasDict]; exact toPys_nodict xs
  | .lst xs => by simp only [toPy, PyData.hasDict]; exact toPys_nodict xs
  | .dct _ _ => rfl
  | .ins _ _ _ => rfl
theorem toPys_nodict : ∀ xs : List D, PyData.hasDictAll (toPys xs) = false
  | [] => rfl
  | d :: r => by simp only [toPys, PyData.hasDictAll, toPy_nodict d, toPys_nodict r, Bool.or_self]
end
section
variable {P : Program} {w : World} {K : PySem.W.Frag} {G H : Hp} {h : Heap}
theorem tup_at {a : Addr} {vs : List V} (hok : HOk P w H h) (KX : K.In h) (s : SqT K H a vs) : ∃ its : List Value, Vals vs its ∧ IsTup h a its.toArray := by
  rcases s with s | ⟨o, its, n, hk, hc, hs, _, r⟩
  · obtain ⟨_, its, r, p⟩ := s.ok hok
    exact ⟨its, r, p⟩
  · exact ⟨its.toList, r, o, KX a o hk, hc, n, by simpa using hs⟩
mutual
theorem reads_of (hok : HOk P w H h) (KX : K.In h) (sg : Same G H) : ∀ {d : D} {v : V} {u : Value}, RepD K G d v → noD d = true → RelV v u → ∃ as, Reads h u (toPy d) as
  | _, _, _, .non, _, r => by cases (show _ = Value.none from r); exact ⟨_, .none⟩
  | _, _, _, .bl b, _, r => by cases (show _ = Value.bool b from r); exact ⟨_, .bool b⟩
  | _, _, _, .int i, _, r => by obtain ⟨t, rfl⟩ := r; exact ⟨_, .int i t⟩
  | _, _, _, .str x, _, r => by obtain ⟨t, rfl⟩ := r; exact ⟨_, .str x t⟩
  | _, _, _, .tup (ds := ds) s q, n, r => by
    cases (show _ = Value.ref _ from r)
    obtain ⟨its, rv, o, e1, e2, m, e3⟩ := tup_at hok KX (Same.seqT sg s)
    obtain ⟨as, ra⟩ := readsAll_of hok KX sg q n rv
    exact ⟨_, .tuple e1 e2 e3 ra⟩
  | _, _, _, .lst (ds := ds) s q, n, r => by
    cases (show _ = Value.ref _ from r)
    obtain ⟨_, its, m, rv, e⟩ := hok _ _ (sg _ _ s)
    obtain ⟨as, ra⟩ := readsAll_of hok KX sg q n rv
    exact ⟨_, .list e rfl rfl ra⟩
  | _, _, _, .dct _ _ _, n, _ => by cases n
  | _, _, _, .ins _ _ _ _, n, _ => by cases n
  | _, _, _, .scr _ _, n, _ => by cases n
  | _, _, _, .exn _ _ _ _, n, _ => by cases n
  | _, _, _, .fn, n, _ => by cases n
theorem readsAll_of (hok : HOk P w H h) (KX : K.In h) (sg : Same G H) : ∀ {ds : List D} {vs : List V} {us : List Value}, RepDs K G ds vs → noDs ds = true → Vals vs us → ∃ as, ReadsAll h us (toPys ds) as
  | _, _, _, .nil, _, r => by cases r; exact ⟨_, .nil⟩
  | _, _, _, .cons p q, n, r => by
    cases r with
    | cons r1 r2 =>
      simp only [noDs, Bool.and_eq_true] at n
      obtain ⟨as, a1⟩ := reads_of hok KX sg p n.1 r1
      obtain ⟨bs, a2⟩ := readsAll_of hok KX sg q n.2 r2
      exact ⟨_, .cons a1 a2⟩
end
theorem reads_dv {d : D} {v : V} {u : Value} (hok : HOk P w H h) (KX : K.In h) (sg : Same G H) (r : DV K G H d v) (n : noD d = true) (rv : RelV v u) : ∃ as, Reads h u (toPy d) as := by
  rcases r with r | ⟨a, vs, xs, rfl, rfl, e, q⟩ | ⟨_, ks, _, xs, e0, _⟩
  · exact reads_of hok KX sg r n rv
  · cases (show _ = Value.ref _ from rv)
    obtain ⟨_, its, m, rv, e⟩ := hok _ _ e
    obtain ⟨as, ra⟩ := readsAll_of hok KX sg q n rv
    exact ⟨_, .list e rfl rfl ra⟩
  · rw [e0] at n; cases n
end
/-- what repr may be asked of -/
structure PrOk (d : D) : Prop where
  nod : noD d = true
  lv : (toPy d).leavesShort 20 = true
  shw : (toPy d).showable = true
  dep : (toPy d).depth ≤ 100
  blk : (toPy d).bulk ≤ 700000
theorem PrOk.fits {d : D} (h : PrOk d) : (toPy d).shown.length ≤ sizeLine := by
  have h1 := PyData.shown_le_bulk 20 (by decide) (toPy d) h.lv
  have h2 := h.blk
  have h3 : sizeLine = 16777216 := sizeLine_eq
  omega
def rRepr (K : PySem.W.Frag) : List V → Hp → VK → Prop := fun xs H Q => ∃ (G : Hp) (d : D) (v : V), xs = [v] ∧ Same G H ∧ DV K G H d v ∧ PrOk d ∧ Q (.str (toPy d).shown) H
section
variable {X : Cx} {k : Nat}
theorem call_reprD (hg : X.A.guards = some []) (hr : Room k X.A) : CallR X (.builtin "repr") (rRepr X.K) := by
  intro pins s σ H xs us Q I r h
  obtain ⟨G, d, v, rfl, sg, dv, ok, q⟩ := h
  obtain ⟨u, rfl, rv⟩ := vals1 r
  obtain ⟨as, rd⟩ := reads_dv I.hok I.kIn sg dv ok.nod rv
  have fin : ∀ (h' : Heap) (u : Tok) (tk : Nat), (∀ b o, s.heap.get? b = some o → h'.get? b = some o) → EP X pins σ Q (.str (toPy d).shown u) { s with heap := h', toks := tk } := fun h' u tk hk => ⟨.str (toPy d).shown, H, I.kept (t' := tk) hk, ⟨_, rfl⟩, q⟩
  have fit := ok.fits
  have run : ∀ a, u = Value.ref a → wpAny (model X.prog X.w) X.A (call (.builtin "repr") [u]) (EP X pins σ Q) X.xe s := fun a e => by
    subst e
    exact repr_of_reads' rd ok.shw (fun z => by rw [toPy_nodict] at z; cases z) hg (by have := hr.un; have := ok.dep; omega) (fun _ _ e => e) fin fit
  cases d with
  | non =>
    cases rd
    exact PySem.P.repr_of_none (fin s.heap _ _ fun _ _ e => e)
  | bl b =>
    cases rd
    exact PySem.P.repr_of_bool (fin s.heap _ _ fun _ _ e => e)
  | int i =>
    cases rd
    have e := ok.shw
    simp only [toPy, PyData.showable, decide_eq_true_eq] at e
    exact PySem.P.repr_of_int e (fin s.heap _ _ fun _ _ e => e)
  | str x =>
    cases rd
    exact PySem.P.repr_of_str (fin s.heap _ _ fun _ _ e => e) fit
  | tup xs => cases rd with | tuple e1 e2 e3 e4 => exact run _ rfl
  | lst xs => cases rd with | list e1 e2 e3 e4 => exact run _ rfl
  | dct _ _ => cases ok.nod
  | ins _ _ _ => cases ok.nod
end
def r31Repr : R31 := fun d Q => PrOk d ∧ Q (.d (.str (toPy d).shown))
theorem u3_repr {K : PySem.W.Frag} : Un3 K (fun x H Q => rRepr K [x] H Q) r31Repr := by
  rintro G H d x Qr Q sg h ⟨ok, q⟩ k
  exact ⟨G, d, x, rfl, sg, h, ok, k _ _ _ _ (.d (.str _)) q⟩
end X1

/-! XA1: defs with defaults; function values; two keywords turned about -/
namespace X1
open PySem PySem.Spec PyProof.Rows L2 L3
/-- a def with defaults -/
structure DdF (K : PySem.W.Frag) (mg : Str → Option Value) (x : Str) (st : Stmt) (ps : List Str) (dvs : List V) (dds : List D) (f : Addr) (fd : FuncData) : Prop where
  fn : FunD K x x (defArgs st) (defBody st) (defScope st) dvs [] f fd
  mgf : mg x = some (.ref f)
  rep : ∀ G, RepDs K G dds dvs
section
variable {P : Program} {w : World} {K : PySem.W.Frag} {mg : Str → Option Value} {base : Heap}
theorem ddf_ok {x : Str} {st : Stmt} {f : Addr} {fd : FuncData} {N ps : List Str} {k : Nat} {sp : SpD} {t : TDS} {dvs : List V} (F : FunD K x x (defArgs st) (defBody st) (defScope st) dvs [] f fd) (SC : FnScope N ps (defScope st))
    (hbody : ∀ (cdv : Value) (A : Around) (outer : List Env) (s : Shared) (H : Hp) (E : XK) (c : C0), Room k (A.deeper (envOfC x (defScope st) s.heap.objs.size f cdv)) →
      Takes (cxOf (L2.CX P w) P w K mg base N x (defScope st) f cdv A outer s H E) (WE0 E) → PassesOwn (model P w) (cxOf (L2.CX P w) P w K mg base N x (defScope st) f cdv A outer s H E).A (cxOf (L2.CX P w) P w K mg base N x (defScope st) f cdv A outer s H E).env (cxOf (L2.CX P w) P w K mg base N x (defScope st) f cdv A outer s H E).xe →
      DSs (cxOf (L2.CX P w) P w K mg base N x (defScope st) f cdv A outer s H E) c (WE0 E) (defBody st) t)
    (hsp : KeepsT ps.length N.length sp t) : FnOk P w K mg base (L2.CX P w) (k + 1) f fd ps (spOf K ps.length sp) := by
  refine F.ok SC (fun vs H Q E h => h.1) (fun cdv A outer s H vs Q E hr h => ?_)
  obtain ⟨hlen, G, as, Qd, Xd, ar, hs, hQ, hE⟩ := h
  have tk : Takes (cxOf (L2.CX P w) P w K mg base N x (defScope st) f cdv A outer s H E) (WE0 E) := takes_of rfl rfl rfl rfl
  refine ⟨_, (hbody cdv A outer s H E ⟨H, G, adOf vs as, N.length, []⟩ hr tk (passes_of rfl)).pss, ?_⟩
  have hpl : ps.length ≤ N.length := by have := congrArg List.length SC.pre; rw [List.length_take] at this; omega
  have hN : vs.length ≤ N.length := by omega
  have r0 := ar.begin_ (N := N) hN
  refine ⟨G, startE N.length as, _, _, r0, hsp as Qd Xd (by rw [← ar.len]; exact hlen) hs, ?_⟩
  exact ⟨fun σ' G' H' e' r' sg q => hQ .non _ .non G' H' (ar.fin hN r') .non q, fun d v σ' G' H' e' r' sg rd q => hQ d _ v G' H' (ar.fin hN r') rd q, fun _ _ _ _ _ _ z => z.elim, fun _ _ _ _ _ _ z => z.elim,
    fun x' e' cl dd σ' G' H' r' sg rx q => hE x' _ cl dd G' H' (ar.fin hN r') rx q⟩
/-- called without the last one -/
theorem ddf_cal {x : Str} {st : Stmt} {f : Addr} {fd : FuncData} {ps : List Str} {k n : Nat} {sp : SpD} {dvs : List V} {dds : List D} (D : DdF K mg x st ps dvs dds f fd) (h : FnOk P w K mg base (L2.CX P w) k f fd ps (spOf K ps.length sp)) (hd : dvs ≠ []) (hn : n + dvs.length = ps.length)
    (hb : ∀ (T : Addr) (kV doc pm : Value) (an : Option Addr) (cdv ct : Value) (us its : List Value), us.length = n → its.length = dvs.length →
      ∃ k, bindArgs (PySem.W.fnOf x x (defArgs st) (defBody st) (defScope st) (.ref T) kV doc pm an cdv ct) ⟨us, []⟩ = seqItems? (.ref T) >>= k ∧ k (some its.toArray) = pure (ps.zip (us ++ its))) : Cal P w K mg base k x ps.length sp dds := by
  obtain ⟨ds, r, b⟩ := D.fn.binds1 (ps := ps) n 0 hd (by rw [Nat.sub_zero]; exact hn) fun T kV doc pm an cdv ct us its h1 h2 => by rw [List.drop_zero]; exact hb T kV doc pm an cdv ct us its h1 h2
  rw [List.drop_zero] at r
  exact ⟨⟨f, fd, ps, dvs, ds, rfl, h, D.mgf, D.fn.kp, b, r, D.rep⟩⟩
/-- a def as a value -/
structure CalV (P : Program) (w : World) (K : PySem.W.Frag) (mg : Str → Option Value) (base : Heap) (k : Nat) (f : Addr) (n : Nat) (sp : SpD) : Prop where
  ex : ∃ (fd : FuncData) (ps : List Str), ps.length = n ∧ FnOk P w K mg base (L2.CX P w) k f fd ps (spOf K n sp) ∧ PySem.W.keepIn K (.ref f) = true ∧ Binds K fd ps []
theorem dd_calV {x : Str} {st : Stmt} {ps : List Str} {f : Addr} {fd : FuncData} {k : Nat} {sp : SpD} (D : Dd K mg x st ps f fd) (h : FnOk P w K mg base (L2.CX P w) k f fd ps (spOf K ps.length sp)) : CalV P w K mg base k f ps.length sp := ⟨⟨fd, ps, rfl, h, D.kp, D.bi⟩⟩
end
/-- x(data, ..), slot i holds the def at f -/
def dCallV (i : Nat) (f : Addr) (n : Nat) (sp : SpD) (t : TDA) : TDE := fun Xd e Q => e[i]? = some (.d (fnD f)) ∧ dCall n sp [] t Xd e Q
theorem x_callV {i : Nat} {f : Addr} {n : Nat} {sp : SpD} {t : TDA} {Xd : XD} {e : List S} {Q : R → List S → Prop} (h0 : e[i]? = some (.d (fnD f))) (h : dCall n sp [] t Xd e Q) : dCallV i f n sp t Xd e Q := ⟨h0, h⟩
section
variable {X : Cx} {c : C0} {W : WX} {k j n : Nat} {sp : SpD} {x : Str} {f : Addr} {p pos : Pos} {e : Expr} {es : List Expr} {t : TDA}
theorem de_cv (i : Nat) (C : CalV X.prog X.w X.K X.mg X.base k f n sp) (hr : Room j X.A) (hk : k ≤ j) (tk : Takes X W) (ha : DA X c W (e :: es) t) (hN : X.N[i]? = some x := by rfl) (hv : Vis X.env.scope x := by first | exact Or.inl rfl | exact Or.inr (Or.inl rfl) | exact Or.inr (Or.inr rfl))
    (hdb : (x == ("__debug__" : Str)) = false := by decide) (hcd : (x == ("__classdict__" : Str)) = false := by decide) (he : starEach (e :: es) X.env = (false, eval e X.env) :: starEach es X.env := by rfl)
    (hpl : (backTo pos (starEach es X.env)).any (·.1) = false := by rfl) : DE X c W (.Call (.Name x p) (e :: es) [] pos) (dCallV i f n sp t) := by
  obtain ⟨fd, ps, rfl, F, hkp, hb⟩ := C.ex
  refine ⟨⟨fun pins s σ H Q I h => ?_⟩⟩
  obtain ⟨G, e0, Qd, Xd, rel, ⟨hs, h⟩, hQ, hX⟩ := h
  obtain ⟨v, hv1, rf⟩ := rel.sl i _ hs
  obtain rfl := dv_fn rf
  have hσ : σ[i]? = some (some (.ref f)) := by
    cases w : σ[i]? with
    | none => rw [w] at hv1; cases hv1
    | some o => rw [w] at hv1; rw [show o = _ from hv1]
  refine wpAny_Call_Name_kw (thn ((pe_var (pos := p) hN hv hdb hcd).run pins s σ H (fun v H1 => v = .ref f ∧ H1 = H) I ⟨.ref f, hσ, rfl, rfl⟩) fun u s1 ⟨v, H1, I1, r1, q1⟩ => ?_)
  obtain ⟨rfl, rfl⟩ := q1
  cases r1
  refine PySem.W.callWith_K (h₀ := X.base) I.ok.mod.kin hkp (thn (ha.pa.run pos pins s1 σ _ (fun vs H1 => spOf X.K ps.length sp (vs ++ []) H1 Q (WE W σ)) I1 ⟨G, e0, _, Xd, rel, h, fun as e1 vs G1 H1 s1 r1 h1 => ?_, hX⟩) fun us s2 ⟨vs, H2, I2, r, q⟩ => ⟨I2.kIn, ?_⟩) he hpl
  · obtain ⟨ds, hds, hl, h1⟩ := h1
    exact call_data s1.rel ((dats_rep r1 hds).append .nil) hl h1 (fun ρ e' v G' H' st rr q => hQ ρ e' v G' H' (s1.trans rel st) (rr.back s1) q) (hX.step rel s1)
  · exact run_fnSD (F := F) (hr.mono hk) hb .nil (passAt tk σ) I2 r q
theorem glo_fn {K : PySem.W.Frag} {mg : Str → Option Value} {x : Str} {f : Addr} (h : mg x = some (.ref f)) : Glo K mg x (fnD f) := ⟨⟨_, .ref f, h, rfl, fun _ => .fn⟩⟩
end
/-- f(b = .., a = ..) of a def with the parameters a, b -/
def gSw : GK := fun a b => a ++ b.reverse
theorem gSw_ok : GKok gSw := ⟨fun h1 h2 => RepDs.append h1 (RepDs.reverse h2)⟩
end X1

/-! XB1: the law itself where it makes lambdas and asks repr: its guards, its table -/
namespace X1
open PySem PySem.Spec PyProof.Rows L2 L3 LamX LamD
section
variable {P : Program} {w : World} {K : PySem.W.Frag} {mg : Str → Option Value} {base : Heap}
/-- the law's run -/
theorem law_run {st : Stmt} {f cda Pt : Addr} {dV kV doc pm ct oc : Value} {an od : Option Addr} {osl : Array (Option Value)} {N : List Str} {k : Nat} {t : TDS} {x q : Str}
    (lk : K.lookup f = some ⟨oc, od, .func (PySem.W.fnOf "law" "law" (defArgs st) (defBody st) (defScope st) dV kV doc pm an (.ref cda) ct), osl⟩) (hcd : PySem.W.codeIn K (.ref cda) "law" = true) (SC : FnScope N [x] (defScope st)) (hkt : KeepsT 1 N.length spLawD t)
    (hbody : ∀ (A : Around) (outer : List Env) (s : Shared) (H : Hp) (E : XK) (c : C0), A.guards = some [] → c.T = [(Pt, q)] → Room k (A.deeper (envOfC "law" (defScope st) s.heap.objs.size f (.ref cda))) →
      Takes (cxOf (L2.CX P w) P w K mg base N "law" (defScope st) f (.ref cda) A outer s H E) (WE0 E) → PassesOwn (model P w) (cxOf (L2.CX P w) P w K mg base N "law" (defScope st) f (.ref cda) A outer s H E).A (cxOf (L2.CX P w) P w K mg base N "law" (defScope st) f (.ref cda) A outer s H E).env (cxOf (L2.CX P w) P w K mg base N "law" (defScope st) f (.ref cda) A outer s H E).xe →
      DSs (cxOf (L2.CX P w) P w K mg base N "law" (defScope st) f (.ref cda) A outer s H E) c (WE0 E) (defBody st) t)
    {A : Around} {outer : List Env} {s : Shared} {H : Hp} {a : Addr} {ns : List Int} (hA : A.guards = some []) (hr : Room (k + 1) A) (e0 : Env0 P w K mg base A outer s H) (hb : BindsTo s (PySem.W.fnOf "law" "law" (defArgs st) (defBody st) (defScope st) dV kV doc pm an (.ref cda) ct) ⟨[.ref a], []⟩ [(x, .ref a)])
    (hl : ns.length ≤ 63) (hS : SqL K H a (ns.map V.int)) (hT : H Pt = some (.tbl #[])) : codeAny (model P w) A (.call (.ref f) ⟨[.ref a], []⟩) (CR (L2.CX P w) outer P w H s (fun v _ => v = .bl true) fun _ _ _ => False) s := by
  refine run_ofS (N := N) (ps := [x]) (us := [.ref a]) (vs := [.ref a]) lk hcd SC hr e0 hb (.cons rfl .nil) rfl fun hr' => ?_
  have tk : Takes (cxOf (L2.CX P w) P w K mg base N "law" (defScope st) f (.ref cda) A outer s H fun _ _ _ => False) (WE0 fun _ _ _ => False) := takes_of rfl rfl rfl rfl
  have hN : ([V.ref a] : List V).length ≤ N.length := by have := congrArg List.length SC.pre; rw [List.length_take] at this; simp only [List.length_cons, List.length_nil] at this ⊢; omega
  let G : Hp := fun b => if b = Pt then none else H b
  have gH : Same G H := fun b o z => by
    have z' : (if b = Pt then none else H b) = some o := z
    by_cases e : b = Pt
    · rw [if_pos e] at z'; cases z'
    · rw [if_neg e] at z'; exact z'
  have rdG : ∀ {b : Addr} {u : HO}, (∀ ps, u ≠ .tbl ps) → Rd H b u → Rd G b u := fun {b u} n z => by
    have ne : b ≠ Pt := fun e => by
      rcases z with z | ⟨o, z⟩
      · rw [e, hT] at z; cases z; exact n _ rfl
      · rw [e, hT] at z; cases z
    rcases z with z | ⟨o, z⟩
    · exact .inl (by show (if b = Pt then none else H b) = _; rw [if_neg ne]; exact z)
    · exact .inr ⟨o, by show (if b = Pt then none else H b) = _; rw [if_neg ne]; exact z⟩
  have sG : SqL K G a (ns.map V.int) := hS.imp (rdG fun _ z => nomatch z) fun z => z
  have ar : ArgRel K G H [.ref a] [.d (scrD (ns.map D.int))] := by
    refine ⟨rfl, fun i s h => ?_, gH, fun i s a h o => ?_, fun i j s t a h _ o => ?_, fun i s h o => ?_⟩
    · cases i with
      | zero => cases h; exact ⟨.ref a, rfl, .scr sG (reps_ints ns)⟩
      | succ i => simp at h
    all_goals
      cases i with
      | zero => cases h; cases o
      | succ i => simp at h
  have r0 := ar.begin_ (N := N) hN
  have r1 : Rel K ⟨H, G, adOf [.ref a] [.d (scrD (ns.map D.int))], N.length, [(Pt, q)]⟩ G H (L2.start N [.ref a]) (startE N.length [.d (scrD (ns.map D.int))]) :=
    ⟨r0.len, r0.sl, r0.gh, fun b o h n t => r0.keep b o h n tb_nil, r0.gsub, r0.gnew, r0.own, r0.inj, r0.rfs, r0.ln, fun p hp => by rw [List.mem_singleton.mp hp]; exact TabS.nil hT, fun b hb => by
      have e : b = Pt := by simpa [C0.tb] using hb
      show (if b = Pt then none else H b) = none
      rw [if_pos e]⟩
  have hd := hbody A outer s H (fun _ _ _ => False) ⟨H, G, adOf [.ref a] [.d (scrD (ns.map D.int))], N.length, [(Pt, q)]⟩ hA rfl hr' tk (passes_of rfl)
  refine ⟨_, hd.pss, G, startE N.length [.d (scrD (ns.map D.int))], _, _, r1, hkt [.d (scrD (ns.map D.int))] (fun d _ => d = .bl true) (fun _ _ => False) rfl ⟨ns, rfl, hl, rfl⟩, ⟨fun σ' G' H' e' r' sg' z => (by cases z), fun d v σ' G' H' e' r' sg' rd' z => ?_, fun _ _ _ _ _ _ z => z.elim, fun _ _ _ _ _ _ z => z.elim, fun _ _ _ _ _ _ _ _ _ _ z => z.elim⟩⟩
  have z' : d = .bl true := z
  subst z'
  cases rd'
  rfl
end
/-- what stands at the law's call: the written part, the names, the law's empty table, the script -/
structure AtHead (K : PySem.W.Frag) (mg : Str → Option Value) (z : Shared) (a c0 P0 : Addr) (us : List Value) (ns : List Int) : Prop where
  part : K.In z.heap
  names : z.heap.Ns mainGlobals mg
  built : ∃ mb, z.heap.Ns builtinsNs mb ∧ ∀ x : Str, x ≠ "__name__" → mb x = bootBuiltins x
  free : z.heap.NoLimit
  quiet : z.gens = #[]
  empty : z.heap.get? P0 = some { cls := .none, data := .fields #[] }
  apart : K.lookup P0 = none
  code : PySem.W.CodeHd z.heap c0 P0
  bmod : ∃ (q : Addr) (ob : Obj), mg "__builtins__" = some (.ref q) ∧ q ≠ builtinsNs ∧ z.heap.get? q = some ob ∧ ob.cls = .type "module" ∧ ob.dict = some builtinsNs ∧ ob.data = .plain
  script : z.heap.get? a = some { cls := .type "list", data := .seq us.toArray }
  nums : IntsAre us ns
  few : ns.length ≤ sizeLine
/-- what is tracked of it: the table; the script, where it is not written -/
def headH (K : PySem.W.Frag) (a P0 : Addr) (us : List Value) (ns : List Int) : Hp := fun b =>
  if b = P0 then some (.tbl #[]) else if b = a ∧ K.lookup a = none then some (.frz { cls := .type "list", data := .seq us.toArray } (.lst (ns.map V.int))) else none
section
variable {P : Program} {w : World} {K : PySem.W.Frag} {mg : Str → Option Value} {z : Shared} {a c0 P0 : Addr} {us : List Value} {ns : List Int}
theorem headH_cas {b : Addr} {u : HO} (q : headH K a P0 us ns b = some u) : (b = P0 ∧ u = .tbl #[]) ∨ (b = a ∧ K.lookup a = none ∧ u = .frz { cls := .type "list", data := .seq us.toArray } (.lst (ns.map V.int))) := by
  unfold headH at q
  by_cases e : b = P0
  · rw [if_pos e] at q; cases q; exact .inl ⟨e, rfl⟩
  · rw [if_neg e] at q
    by_cases e2 : b = a ∧ K.lookup a = none
    · rw [if_pos e2] at q; cases q; exact .inr ⟨e2.1, e2.2, rfl⟩
    · rw [if_neg e2] at q; cases q
theorem AtHead.ne (A : AtHead K mg z a c0 P0 us ns) : a ≠ P0 := fun q => by
  have e := A.script
  rw [q, A.empty] at e
  cases e
theorem AtHead.seq (A : AtHead K mg z a c0 P0 us ns) : SqL K (headH K a P0 us ns) a (ns.map V.int) := by
  have vals := vals_ints A.nums
  cases q : K.lookup a with
  | some o =>
    have e := A.part a o q
    rw [A.script] at e
    cases e
    exact .inr ⟨_, us.toArray, _, q, rfl, rfl, rfl, by rw [List.size_toArray, A.nums.length]; exact A.few, by simpa using vals⟩
  | none => exact .inl (.inr ⟨{ cls := .type "list", data := .seq us.toArray }, by unfold headH; rw [if_neg A.ne, if_pos ⟨rfl, q⟩]⟩)
theorem AtHead.tracked (A : AtHead K mg z a c0 P0 us ns) : HOk P w (headH K a P0 us ns) z.heap := fun b u q => by
  rcases headH_cas q with ⟨rfl, rfl⟩ | ⟨rfl, _, rfl⟩
  · exact A.empty
  · exact ⟨A.script, by rw [List.length_map]; exact A.few, us, _, vals_ints A.nums, A.script⟩
/-- no other object is tracked -/
theorem AtHead.off (A : AtHead K mg z a c0 P0 us ns) {b : Addr} {o : Obj} (e : z.heap.get? b = some o) (h1 : ∀ xs n, o.data ≠ .seq xs n) (h2 : o.data ≠ .fields #[]) : headH K a P0 us ns b = none := by
  cases q : headH K a P0 us ns b with
  | none => rfl
  | some u =>
    rcases headH_cas q with ⟨rfl, _⟩ | ⟨rfl, _, _⟩
    · rw [A.empty] at e; cases e; exact (h2 rfl).elim
    · rw [A.script] at e; cases e; exact (h1 _ _ rfl).elim
abbrev headB (K : PySem.W.Frag) (z : Shared) (a P0 : Addr) (us : List Value) (ns : List Int) : Heap := hidT z.heap (headH K a P0 us ns)
theorem AtHead.dict (A : AtHead K mg z a c0 P0 us ns) {b : Addr} {m : Str → Option Value} (h : z.heap.Ns b m) : (headB K z a P0 us ns).Ns b m := by
  obtain ⟨o, es, ep, e, d, r⟩ := h
  refine ⟨o, es, ep, hidT_get e (A.off e (fun xs n q => ?_) fun q => ?_), d, r⟩
  · rw [d] at q; cases q
  · rw [d] at q; cases q
theorem AtHead.partB (A : AtHead K mg z a c0 P0 us ns) : K.In (headB K z a P0 us ns) := fun b o e => by
  refine hidT_get (A.part b o e) ?_
  cases q : headH K a P0 us ns b with
  | none => rfl
  | some u =>
    rcases headH_cas q with ⟨rfl, _⟩ | ⟨rfl, k, _⟩
    · rw [A.apart] at e; cases e
    · rw [k] at e; cases e
theorem AtHead.env (A : AtHead K mg z a c0 P0 us ns) : Env0 P w K mg (headB K z a P0 us ns) callerA [] z (headH K a P0 us ns) where
  frames := rfl
  mod := by
    obtain ⟨mb, b1, b2⟩ := A.built
    obtain ⟨mc, l1, l2⟩ := A.free
    exact ⟨A.partB, A.dict A.names, ⟨mb, A.dict b1, b2⟩, ⟨mc, A.dict l1, l2⟩⟩
  bs := fun _ _ e => of_hidT e
  bsz := Nat.le_of_eq (hidT_size _ _)
  funs := trivial
  frf := fun b q => by cases q
  hok := A.tracked
  bare := .of_eq A.quiet
theorem AtHead.table (A : AtHead K mg z a c0 P0 us ns) : LamX.TabB (headB K z a P0 us ns) mg c0 P0 := by
  refine ⟨?_, ?_, fun q => ?_⟩
  · obtain ⟨o, vs, fl, tf, gs, tg, inF, tx, tt, e1, r1, r2, r3, r⟩ := A.code
    refine ⟨o, vs, fl, tf, gs, tg, inF, tx, tt, hidT_get e1 (A.off e1 (fun xs n q => by rw [r2] at q; cases q) fun q => ?_), r1, r2, r3, r⟩
    rw [r2] at q
    cases q
    simp at r3
  · obtain ⟨q, ob, m1, m2, m3, m4, m5, m6⟩ := A.bmod
    have off := A.off m3 (fun xs n k => by rw [m6] at k; cases k) fun k => by rw [m6] at k; cases k
    refine ⟨q, ob, m1, m2, fun k => ?_, fun k => ?_, hidT_get m3 off, m4, m5, m6⟩
    · obtain ⟨og, es, ep, eg, dg, _⟩ := A.names
      rw [← k, m3] at eg
      cases eg
      rw [m6] at dg
      cases dg
    · rw [k, A.empty] at m3
      cases m3
      cases m6
  · obtain ⟨og, es, ep, eg, dg, _⟩ := A.names
    rw [q, A.empty] at eg
    cases eg
    cases dg
/-- behind the call -/
theorem AtHead.behind (A : AtHead K mg z a c0 P0 us ns) {z' : Shared} {H' : Hp} (un : Un (frs []) [] (headH K a P0 us ns) H' z.heap z'.heap) (hok : HOk P w H' z'.heap) : OldK z.heap z'.heap := by
  have hP : headH K a P0 us ns P0 = some (.tbl #[]) := if_pos rfl
  obtain ⟨more, q⟩ := un.tbls P0 #[] hP
  have grown := hok P0 _ q
  have stays : ∀ b o, b ≠ P0 → z.heap.get? b = some o → z'.heap.get? b = some o := fun b o nb e => by
    cases q : headH K a P0 us ns b with
    | none => exact un.keep b o e q (fun k => by cases k) (fun k => by cases k)
    | some u =>
      rcases headH_cas q with ⟨k, _⟩ | ⟨rfl, _, rfl⟩
      · exact absurd k nb
      · rw [A.script] at e
        cases e
        exact (hok b _ (un.frzs b _ _ q)).1
  refine ⟨fun b o e => ?_, fun b o e => ?_⟩
  · by_cases hb : b = P0
    · rw [hb, A.empty] at e
      cases e
      rw [hb]
      exact .inr (.inl ⟨(A.code.tab A.empty).isCodeTable, rfl, #[], _, rfl, by rw [Array.empty_append]; exact grown⟩)
    · exact .inl (stays b o hb e)
  · by_cases hb : b = P0
    · rw [hb]; exact ⟨_, grown⟩
    · exact ⟨o, stays b o hb e⟩
theorem AtHead.call {fa : Addr} (A : AtHead K mg z a c0 P0 us ns) (F : codeAny (model P w) callerA (.call (.ref fa) ⟨[.ref a], []⟩) (CR (L2.CX P w) [] P w (headH K a P0 us ns) z (fun v _ => v = .bl true) fun _ _ _ => False) z) :
    codeAny (model P w) callerA (.call (.ref fa) ⟨[.ref a], []⟩) (fun r z' => r = .ok (.ret (.bool true)) ∧ OldK z.heap z'.heap ∧ z'.os = z.os ∧ AllBare z'.gens) z := by
  refine codeAny_mono F fun r z' h => ?_
  cases r with
  | error e =>
    obtain ⟨_, _, _, _, _, _, _, _, _, _, _, _, no⟩ := h
    exact no.elim
  | ok fl =>
    cases fl with
    | ret u =>
      obtain ⟨v, H', os, bare, un, hok, rv, q⟩ := h
      have ev : v = .bl true := q
      rw [ev] at rv
      rw [show u = Value.bool true from rv]
      exact ⟨rfl, A.behind un hok, os, bare⟩
    | next => exact h.elim
    | brk => exact h.elim
    | cont => exact h.elim
end
/-- what the law's facts give at the head's heap -/
def LawG (l : PySem.W.OpenLaw) (w : World) (K : PySem.W.Frag) (mg : Str → Option Value) (fa : Addr) (h : Heap) : Prop :=
  ∃ c0 P0 : Addr, h.get? P0 = some { cls := .none, data := .fields #[] } ∧ K.lookup P0 = none ∧ PySem.W.CodeHd h c0 P0 ∧
    ∀ (base : Heap) (H : Hp) (s : Shared) (a : Addr) (ns : List Int), K.In base → base.Ns mainGlobals mg → LamX.TabB base mg c0 P0 → H P0 = some (.tbl #[]) → ns.length ≤ 63 → SqL K H a (ns.map V.int) → Env0 l.prog w K mg base callerA [] s H →
      codeAny (model l.prog w) callerA (.call (.ref fa) ⟨[.ref a], []⟩) (CR (L2.CX l.prog w) [] l.prog w H s (fun v _ => v = .bl true) fun _ _ _ => False) s
theorem walkG {l : PySem.W.OpenLaw} {q : Program} {loose : List Str} {XP : (Str → Option Value) → Heap → Prop} {YP : World → Heap → Prop} {d : DefRec} {K : Params → PySem.W.Frag}
    (hn : l.most = some 63) (hdf : d.params.defaults = []) (hrec : ((recsOf q).any fun e => e.name == d.name) = true) (hY : ∀ (w : World) (h : Heap), YP w h → (K w.params).In h)
    (F : ∀ (w : World) (mg : Str → Option Value) (fa : Addr) (h : Heap), YP w h → (K w.params).In h → h.Ns mainGlobals mg → mg d.name = some (.ref fa) → OwnTab (K w.params) fa h → LawG l w (K w.params) mg fa h) :
    PySem.W.WalkO q loose XP YP l.row.toRowW d [] (fun f vs => PySem.call f vs) := by
  refine Att.attach_callB hn hdf ?_
  intro w _ z mg mb fa _ _ _ _ a us ns R Y _ _ _ at_law script nums few _ quiet
  have part := hY w _ Y
  have own : OwnTab (K w.params) fa z.heap := by
    intro c T o1 fd1 e dd vs1 sl k1 k2 k3 k4 k5
    obtain ⟨rec, mem, nam⟩ := List.any_eq_true.mp hrec
    obtain ⟨f', o', fd', c', T', g1, g2, g3, g4, g5, ⟨oc, vc, t1, _, t3, t4⟩, emp⟩ := R.T.tab rec mem
    rw [beq_iff_eq.mp nam, at_law] at g1
    cases g1
    rw [part _ _ k1] at g2
    cases g2
    rw [k2] at g3
    cases g3
    rw [k3] at g4
    cases g4
    rw [part _ _ k4] at t1
    cases t1
    cases t3
    rw [k5] at t4
    cases t4
    exact emp
  obtain ⟨c0, T, empty, apart, code, run⟩ := F w mg fa _ Y part R.T.g at_law own
  have A : AtHead (K w.params) mg z a c0 T us ns := ⟨part, R.T.g, ⟨mb, R.T.b, R.T.builtins⟩, R.T.nolimit, quiet, empty, apart, code, R.T.bmain, script, nums, Nat.le_trans few (by rw [sizeLine_eq]; decide)⟩
  exact A.call (run _ _ z a ns A.partB (A.dict A.names) A.table (if_pos rfl) few A.seq A.env)
end X1

/-! XC1: steps of the new terms; a def that gets lambdas as a bundle -/
namespace X1
open PySem PySem.Spec PyProof.Rows L2 L3 LamX LamD
section
variable {Xd : XD} {De : EndsD} {e : List S} {Q : R → List S → Prop} {Qr : R → Prop} {C : Addr} {fn gn : Str} {i j : Nat}
theorem x_raise1 {t : TDA} (h : t Xd e fun as e1 => ∃ d, dats as = some [d] ∧ Xd ⟨C, [fn], [d]⟩ e1) : dRaise1 C fn t Xd De e := h
theorem x_raise2 {t : TDA} (h : t Xd e fun as e1 => ∃ d d', dats as = some [d, d'] ∧ Xd ⟨C, [gn, fn], [d', d]⟩ e1) : dRaise2 C fn gn t Xd De e := h
theorem x_rz1 {P : D → Prop} {as : List AR} {d : D} (h0 : dats as = some [d]) (h : P d) : ∃ d, dats as = some [d] ∧ P d := ⟨d, h0, h⟩
theorem x_rz2 {P : D → D → Prop} {as : List AR} {d d' : D} (h0 : dats as = some [d, d']) (h : P d d') : ∃ d d', dats as = some [d, d'] ∧ P d d' := ⟨d, d', h0, h⟩
theorem x_try {isE : Addr → Prop} {t : TDS} (h : t (fun x e1 => isE x.C ∧ (∃ s, e1[i]? = some s ∧ s.fixd = false) ∧ (∃ s, e1[j]? = some s ∧ s.fixd = false) ∧ De.nx ((e1.set j (.d (excD x.C x.ns x.xs))).set i .no)) De e) : dTry isE i j t Xd De e := h
theorem x_thunk {f : Addr} {τ : Tau} (h0 : e[i]? = some (.d (fnD f))) (h : τ (fun d => Q (.d d) e) (fun x => Xd x e)) : dThunk i f τ Xd e Q := ⟨h0, h⟩
theorem x_isC {iv : Addr → Option Bool} {fs : List Str} {xs : List D} {b : Bool} (h0 : iv C = some b) (h : Qr (.d (.bl b))) : r31IsC iv (excD C fs xs) Qr := ⟨C, fs, xs, b, rfl, h0, h⟩
theorem x_fld {okA : Addr → Prop} {n : Str} {fs : List Str} {xs : List D} {y : D} (h0 : okA C) (h1 : (fs.zip xs).lookup n = some y) (h : Qr (.d y)) : r31Fld okA n (excD C fs xs) Qr := ⟨C, fs, xs, y, rfl, h0, h1, h⟩
theorem x_repr {d : D} (h0 : PrOk d) (h : Qr (.d (.str (toPy d).shown))) : r31Repr d Qr := ⟨h0, h⟩
end
/-- a def that gets lambdas -/
structure HCal (P : Program) (w : World) (K : PySem.W.Frag) (mg : Str → Option Value) (base : Heap) (k : Nat) (x : Str) (n : Nat) (sp : SpD) (hv : D → D) (hx : XV → Option D) : Prop where
  ex : ∃ (g : Addr) (a : Str) (pg : Arguments) (bg : List Stmt) (sg : Scope) (dV kV doc pm cdv ct oc : Value) (an od : Option Addr) (osl : Array (Option Value)) (Ng : List Str) (tH : Addr → Tau → TDS),
    mg x = some (.ref g) ∧ PySem.W.keepIn K (.ref g) = true ∧ K.lookup g = some ⟨oc, od, .func (PySem.W.fnOf x x pg bg sg dV kV doc pm an cdv ct), osl⟩ ∧ PySem.W.codeIn K cdv x = true ∧ L2.Binds K (PySem.W.fnOf x x pg bg sg dV kV doc pm an cdv ct) [a] [] ∧
    FnScope Ng [a] sg ∧ Ng[0]? = some a ∧ Vis sg a ∧ (a == ("__debug__" : Str)) = false ∧ (a == ("__classdict__" : Str)) = false ∧
    (∀ (f : Addr) (ds : List D) (A : Around) (outer : List Env) (s : Shared) (H : Hp) (c2 : C0), Room k (A.deeper (envOfC x sg s.heap.objs.size g cdv)) → Takes (cxOf (L2.CX P w) P w K mg base Ng x sg g cdv A outer s H (fun _ _ _ => False)) (WE0 fun _ _ _ => False) →
      PassesOwn (model P w) (cxOf (L2.CX P w) P w K mg base Ng x sg g cdv A outer s H (fun _ _ _ => False)).A (cxOf (L2.CX P w) P w K mg base Ng x sg g cdv A outer s H (fun _ _ _ => False)).env (cxOf (L2.CX P w) P w K mg base Ng x sg g cdv A outer s H (fun _ _ _ => False)).xe →
      (∀ (p1 p2 : Pos) (W' : WX) (pn : List (Addr × Obj)) (xe : Value → Shared → Prop), Takes ((cxOf (L2.CX P w) P w K mg base Ng x sg g cdv A outer s H (fun _ _ _ => False)).tr pn xe) W' → DE ((cxOf (L2.CX P w) P w K mg base Ng x sg g cdv A outer s H (fun _ _ _ => False)).tr pn xe) c2 W' (.Call (.Name a p1) [] [] p2) (dThunk 0 f (tauOf sp ds))) →
      DSs (cxOf (L2.CX P w) P w K mg base Ng x sg g cdv A outer s H (fun _ _ _ => False)) c2 (WE0 fun _ _ _ => False) bg (tH f (tauOf sp ds))) ∧
    (∀ (f : Addr) (ds : List D) (Qd : D → Prop), tauOf sp ds (fun d => Qd (hv d)) (fun x => ∃ r, hx x = some r ∧ Qd r) → tH f (tauOf sp ds) (fun _ _ => False) { nx := fun _ => Qd .non, rt := fun d _ => Qd d } (startE Ng.length [.d (fnD f)]))
section
variable {X : Cx} {c : C0} {W : WX} {x gn : Str} {cda P : Addr} {k k1 k2 n : Nat} {params : Arguments} {scope : Scope} {p lpos pos pp pos2 : Pos} {e1 : Expr} {es : List Expr} {sp : SpD} {hv : D → D} {hx : XV → Option D}
theorem de_hd (las : List LA) (HC : HCal X.prog X.w X.K X.mg X.base k1 x n sp hv hx) (l1 : k1 ≤ k) (C : Cal X.prog X.w X.K X.mg X.base k2 gn n sp []) (l2 : k2 ≤ k) (hr : Room (k + 2) X.A) (TB : LamX.TabB X.base X.mg cda P) (hcode : X.env.code = .ref cda) (hT : c.T = [(P, lamQ X)])
    (L : LamN X.N X.env.scope scope) (B : LamB params (.Call (.Name gn pp) (e1 :: es) [] pos2) scope) (hk0 : params.kw_defaults = []) (hdf : params.defaults = [] ∨ ∃ (z : Int) (j : Nat) (p : Pos), params.defaults = [.Constant (.int z) j p]) (ok : laOk X.K las) (hgl : scope.names.lookup gn = some .globalImplicit)
    (hargs : ∀ (A : Around) (outer : List Env) (s : Shared) (H : Hp) (E : XK) (f c' : Addr), PA (lamCx X A outer s H E scope f c') (e1 :: es) (laT X.K las)) (hg : Gl X x := by rfl)
    (he : ∀ env : Env, starEach (e1 :: es) env = (false, eval e1 env) :: starEach es env := by intro _; rfl) (hpl : ∀ env : Env, (backTo pos2 (starEach es env)).any (·.1) = false := by intro _; rfl) (hdx : (x == ("__debug__" : Str)) = false := by decide) (hdg : (gn == ("__debug__" : Str)) = false := by decide) :
    DE X c W (.Call (.Name x p) [.Lambda params (.Call (.Name gn pp) (e1 :: es) [] pos2) scope lpos] [] pos) (dHeard n sp las hv hx) := by
  obtain ⟨g, a, pg, bg, sg, dV, kV, doc, pm, cdv, ct, oc, an, od, osl, Ng, tH, hm, hk, lk, hcg, hb, Sg, hNg, hva, hda, hca, hder, hH⟩ := HC.ex
  have C' : Cal X.prog X.w X.K X.mg X.base k gn n sp [] := by
    obtain ⟨f, fd, ps, dvs, dsv, hps, F, h⟩ := C.ex
    exact ⟨⟨f, fd, ps, dvs, dsv, hps, F.mono l2, h⟩⟩
  exact de_heard (tH := tH) hg hm hk lk hcg hb Sg hNg hva TB hcode hT hr L B hk0 hdf C' ok hgl hargs he hpl (fun f ds s H c2 r1 r2 r3 r4 => hder f ds X.A X.stack s H c2 (r1.mono l1) r2 r3 r4) hH hda hca hdx hdg
end
end X1

/-! XD1: what the written part says of exception classes, put together -/
namespace X1
open PySem PySem.Spec PyProof.Rows L2 L3
section
variable {K : PySem.W.Frag} {C x : Addr} {b : Bool}
theorem kitcls_of (h2 : PySem.W.isClsIn K x = true) (h3 : PySem.W.typeIn K (.ref x) = some (.type "type")) (h4 : PySem.W.subIn K (.ref C) (.ref x) = some b) : PySem.W.kitCls K (.ref C) (.ref x) = some b := by
  have e2 : ((PySem.W.clsIn K x).isSome && PySem.W.typeIn K (.ref x) == some (.type "type")) = true := by
    have h2' : (PySem.W.clsIn K x).isSome = true := h2
    rw [h2', h3] <;> rfl
  show (if ((PySem.W.clsIn K x).isSome && PySem.W.typeIn K (.ref x) == some (.type "type")) = true then PySem.W.subIn K (.ref C) (.ref x) else none) = some b
  rw [if_pos e2]
  exact h4
theorem exm_of (h1 : PySem.W.subIn K (.ref x) (.type "BaseException") = some true) (h2 : PySem.W.isClsIn K x = true) (h3 : PySem.W.typeIn K (.ref x) = some (.type "type")) (h4 : PySem.W.subIn K (.ref C) (.ref x) = some b) : PySem.W.exmOne K (.ref C) (.ref x) = some b := by
  have e1 : (PySem.W.subIn K (.ref x) (.type "BaseException") == some true) = true := by rw [h1] <;> rfl
  unfold PySem.W.exmOne
  rw [if_pos e1]
  exact kitcls_of h2 h3 h4
theorem kit_of (h5 : PySem.W.subIn K (.ref C) (.ref C) = some true) (h2 : PySem.W.isClsIn K x = true) (h3 : PySem.W.typeIn K (.ref x) = some (.type "type")) (h4 : PySem.W.subIn K (.ref C) (.ref x) = some b) : PySem.W.kitOne K (.ref C) (.ref x) = some b := by
  unfold PySem.W.kitOne
  by_cases e : (Value.ref C == Value.ref x) = true
  · rw [if_pos e]
    have e' : Value.ref C = Value.ref x := by simpa using e
    cases e'
    rw [h5] at h4
    cases h4
    rfl
  · rw [if_neg e]
    exact kitcls_of h2 h3 h4
/-- is an exception of the class at c one of the class at x -/
noncomputable def ivK (K : PySem.W.Frag) (x c : Addr) : Option Bool := open Classical in if L2.ExcC K c then PySem.W.kitOne K (.ref c) (.ref x) else none
def oAK (K : PySem.W.Frag) (n : Str) (c : Addr) : Prop := L2.ExcC K c ∧ PySem.W.findIn K (.ref c) n = some none
def iEK (K : PySem.W.Frag) (x c : Addr) : Prop := PySem.W.exmOne K (.ref c) (.ref x) = some true
theorem ivK_ok {x c : Addr} {b : Bool} (h : ivK K x c = some b) : L2.ExcC K c ∧ PySem.W.kitOne K (.ref c) (.ref x) = some b := by
  unfold ivK at h
  split at h
  · rename_i e; exact ⟨e, h⟩
  · cases h
theorem iv_of (h : L2.ExcC K C) (hk : PySem.W.kitOne K (.ref C) (.ref x) = some b) : ivK K x C = some b := by
  unfold ivK
  rw [if_pos h]
  exact hk
end
/-- the methods of a class -/
def clsBody : Stmt → List Stmt
  | .ClassDef _ _ _ b _ _ _ _ _ _ _ => b
  | _ => []
end X1

/-! XE1: not in range(a, b); isinstance of two classes of one's own; rest.pop(i); sorted of a dict of texts -/
namespace L2
open PySem PySem.Spec PyProof.Rows
section
variable {X : Cx}
def rNinR : R2 := fun x y H Q => ∃ i a lo hi, x = V.int i ∧ y = V.ref a ∧ H a = some (.rng lo hi) ∧ Q (.bl (!decide (lo ≤ i ∧ i < hi))) H
theorem op_nin_rng : OpR X (compareOp .NotIn) rNinR := by
  intro pins s σ H x y v u Q I rx ry h
  obtain ⟨i, a, lo, hi, e1, e2, ha, q⟩ := h
  subst e1 e2
  obtain ⟨k, e3⟩ := rx
  subst e3
  have e4 : u = Value.ref a := ry
  subst e4
  obtain ⟨t1, t2, t3, ho⟩ := I.hok a _ ha
  show wpAny _ _ (do return Value.bool (!(← contains (Value.ref a) (Value.int i k)))) _ _ s
  refine wpAny_bind (wpAny_contains_slot (T := "range") ⟨_, ho, rfl⟩ F.slot_range_contains (call_meets F.slot_range_contains ⟨_, ho, rfl⟩ F.entry_range_contains (F.args_range_contains_2 _ _)
    (q_contains a lo hi i t1 t2 t3 k) ⟨ho, wpAny_truthy_bool (wpAny_pure ⟨.bl _, H, I, rfl, by rw [place1]; exact q⟩)⟩))
/-- isinstance(e, (c, d)), e an exception held as a value -/
def rIsVT (K : PySem.W.Frag) : List V → Hp → VK → Prop := fun xs H Q => ∃ (a C dd tp : Addr) (fs : List (Str × V)) (cs : List V) (ws : List Value) (b : Bool), xs = [.ref a, .ref tp] ∧ H a = some (exv a (.ref C) (some dd)) ∧ H dd = some (.xd fs) ∧ ExcC K C ∧
  H tp = some (.tup cs) ∧ (∀ us, Vals cs us → us = ws) ∧ PySem.W.kitAny K (.ref C) ws = some b ∧ Q (.bl b) H
theorem call_isVT : CallR X (.builtin "isinstance") (rIsVT X.K) := by
  intro pins s σ H xs us Q I r h
  obtain ⟨a, C, dd, tp, fs, cs, ws, b, e0, ha, hd, T, htp, hws, hk, q⟩ := h
  subst e0
  obtain ⟨u1, u2, e1, r1, r2⟩ := vals2 r
  subst e1
  have e2 : u1 = Value.ref a := r1
  have e3 : u2 = Value.ref tp := r2
  subst e2 e3
  obtain ⟨oe, od, mA, J, _, _⟩ := exv_inst I.hok ha hd
  obtain ⟨cdD, hcD, _⟩ := PySem.W.any_some T.hd
  obtain ⟨_, its, rv, o, h1, h2, n, h3⟩ := (show ObjOk X.prog X.w H s.heap tp (.tup cs) from I.hok tp _ htp)
  have e4 := hws _ rv
  subst e4
  obtain ⟨oc, od', dt, sl⟩ := o
  simp only at h2 h3
  subst h2 h3
  exact PySem.W.kia_tup (PySem.W.kitx_exc (ox := oe) (od := some od) (by rw [hcD]; rfl) T.hg T.hk T.hs T.ha T.hn T.ht T.hm) I.kIn J h1 hk (fun z => nomatch z) fun tk => ⟨.bl b, H, I.kept (t' := tk) fun _ _ z => z, rfl, q⟩
end
end L2
namespace X1
open PySem PySem.Spec PyProof.Rows L2 L3
section
variable {X : Cx} {c : C0} {W : WX} {ex : Expr} {te : TDE} {p pos pos' : Pos} {lo hi : Int}
def dNinR (lo hi : Int) (te : TDE) : TDE := fun Xd e Q => te Xd e fun ρ e1 => ∃ i, see e1 ρ = some (.int i) ∧ Q (.d (.bl (!decide (lo ≤ i ∧ i < hi)))) e1
theorem dt_ninR {j1 j2 : Nat} {p1 p2 : Pos} (hm : X.mg "range" = none) (hv : bootBuiltins "range" = some (.type "range")) (ha : DE X c W ex te) (hg : Gl X "range" := by rfl)
    (he : starEach (Expr.Constant (.int lo) j1 p1 :: [Expr.Constant (.int hi) j2 p2]) X.env = (false, eval (Expr.Constant (.int lo) j1 p1) X.env) :: starEach [Expr.Constant (.int hi) j2 p2] X.env := by rfl)
    (he2 : starEach (Expr.Constant (.int hi) j2 p2 :: []) X.env = (false, eval (Expr.Constant (.int hi) j2 p2) X.env) :: starEach [] X.env := by rfl) (hpl : (backTo pos' (starEach [Expr.Constant (.int hi) j2 p2] X.env)).any (·.1) = false := by rfl)
    (hb : behindInMarks .NotIn (.Call (.Name "range" p) [.Constant (.int lo) j1 p1, .Constant (.int hi) j2 p2] [] pos') = false := by first | exact nomark _ | rfl) :
    DT X c W (.Compare ex [.NotIn] [.Call (.Name "range" p) [.Constant (.int lo) j1 p1, .Constant (.int hi) j2 p2] [] pos'] pos) (dB (dNinR lo hi te)) := by
  refine ⟨PT.imp (pt_cmpR op_nin_rng ha.pe (pe_callTy cr_range2 hg hm hv (pa_cons pe_int (pa_cons pe_int pa_nil he2) he) (by decide) (by decide) he hpl) hb) fun σ H Q ⟨G, e, Qd, Xd, rel, h, hQ, hX⟩ => ?_⟩
  refine ⟨G, e, _, Xd, rel, h, fun ρ1 e1 v1 G1 H1 st1 r1 h1 => ?_, hX⟩
  obtain ⟨i, sd, b, hb, h1⟩ := h1
  have ev := (r1.see st1.rel sd).int
  subst ev
  refine ⟨lo, hi, rfl, fun tp htp => ?_⟩
  have st2 := Step.ext st1.rel (same_upd (o := .rng lo hi) htp) (Same.refl _) (st1.rel.gh.trans (same_upd htp)) fun a h => .inl h
  refine ⟨i, tp, lo, hi, rfl, rfl, upd_same, b, ?_, hQ b e1 _ _ (st1.trans rel st2) h1⟩
  cases hb
  rfl
/-- isinstance(e, (C, C')) -/
def r31IsC2 (isV isU : Addr → Option Bool) : R31 := fun d Q => ∃ C fs xs b b', d = excD C fs xs ∧ isV C = some b ∧ isU C = some b' ∧ Q (.d (.bl (b || b')))
theorem de_isC2 {cn dn : Str} {p2 p3 p4 : Pos} {kk : Nat} {C' C'' : Addr} {isV isU : Addr → Option Bool} (hV : ∀ C b, isV C = some b → ExcC X.K C ∧ PySem.W.kitOne X.K (.ref C) (.ref C') = some b) (hU : ∀ C b, isU C = some b → ExcC X.K C ∧ PySem.W.kitOne X.K (.ref C) (.ref C'') = some b)
    (hm : X.mg "isinstance" = none) (hmt : X.mg cn = some (.ref C')) (hmu : X.mg dn = some (.ref C'')) (ha : DE X c W ex te) (hg : Gl X "isinstance" := by rfl) (hgt : Gl X cn := by rfl) (hgu : Gl X dn := by rfl)
    (hdb : (cn == ("__debug__" : Str)) = false := by decide) (hdb2 : (dn == ("__debug__" : Str)) = false := by decide)
    (hv : bootBuiltins "isinstance" = some (.builtin "isinstance") := by first | exact PyProof.Rows.boot_isinstance | decide +kernel)
    (he : starEach (ex :: [Expr.Tuple [Expr.Name cn p2, Expr.Name dn p3] kk p4]) X.env = (false, eval ex X.env) :: starEach [Expr.Tuple [Expr.Name cn p2, Expr.Name dn p3] kk p4] X.env := by rfl)
    (he2 : starEach (Expr.Tuple [Expr.Name cn p2, Expr.Name dn p3] kk p4 :: []) X.env = (false, eval (Expr.Tuple [Expr.Name cn p2, Expr.Name dn p3] kk p4) X.env) :: starEach [] X.env := by rfl) (hpl : (backTo pos (starEach [Expr.Tuple [Expr.Name cn p2, Expr.Name dn p3] kk p4] X.env)).any (·.1) = false := by rfl)
    (he3 : starEach (Expr.Name cn p2 :: [Expr.Name dn p3]) X.env = (false, eval (Expr.Name cn p2) X.env) :: starEach [Expr.Name dn p3] X.env := by rfl) (he4 : starEach (Expr.Name dn p3 :: []) X.env = (false, eval (Expr.Name dn p3) X.env) :: starEach [] X.env := by rfl) :
    DE X c W (.Call (.Name "isinstance" p) [ex, .Tuple [.Name cn p2, .Name dn p3] kk p4] [] pos) (dUn (r31IsC2 isV isU) te) := by
  refine ⟨PE.imp (pe_callB (r := rIsVT X.K) call_isVT hg hm hv (pa_cons ha.pe (pa_cons (pe_tup (pa_cons (pe_glob (v := .ref C') hgt hmt rfl hdb) (pa_cons (pe_glob (v := .ref C'') hgu hmu rfl hdb2) pa_nil he4) he3)) pa_nil he2) he) (by decide) (by decide) he hpl) fun σ H Q h => ?_⟩
  obtain ⟨G, e, Qd, Xd, rel, h, hQ, hX⟩ := h
  refine ⟨G, e, _, Xd, rel, h, fun ρ1 e1 v1 G1 H1 st1 r1 h1 => ?_, hX⟩
  obtain ⟨d, sd, C, fs, xs, b, b', e0, h5, h6, q⟩ := h1
  subst e0
  refine ⟨(by decide : 2 ≤ 1000000) |> fun z => Nat.le_trans z mil, fun tp htp => ?_⟩
  have st2 := Step.ext st1.rel (same_upd (o := .tup [.ref C', .ref C'']) htp) (Same.refl _) (st1.rel.gh.trans (same_upd htp)) fun a h => .inl h
  obtain ⟨a, dd, vs, ev, k1, k2, _, _⟩ := dv_exc ((r1.step st2).see st2.rel sd) st2.rel.gh
  subst ev
  obtain ⟨T, hk⟩ := hV C b h5
  obtain ⟨_, hk'⟩ := hU C b' h6
  refine ⟨a, C, dd, tp, _, _, [.ref C', .ref C''], b || b', rfl, k1, k2, T, upd_same, fun us r => ?_, ?_, hQ (.d (.bl _)) e1 _ _ _ (st1.trans rel st2) (RepD.bl _) q⟩
  · obtain ⟨u1, u2, e1, r1, r2⟩ := vals2 r
    subst e1
    have e2 : u1 = Value.ref C' := r1
    have e3 : u2 = Value.ref C'' := r2
    rw [e2, e3]
  · refine kitAny_cons hk (fun z => ?_) (fun z => by rw [z, Bool.true_or])
    rw [z, Bool.false_or]
    exact kitAny_cons hk' (fun z => by rw [z]; exact kitAny_nil) (fun z => z)
/-- rest.pop(i), rest a list of one's own -/
def dPopAt (i : Nat) (te : TDE) : TDE := fun Xd e Q => (∃ ys, e[i]? = some (.ol ys)) ∧ te Xd e fun ρ e1 => ∃ j xs d, see e1 ρ = some (.int j) ∧ e1[i]? = some (.ol xs) ∧ 0 ≤ j ∧ j < 2 ^ 62 ∧ xs[j.toNat]? = some d ∧ Q (.d d) (e1.set i (.ol (xs.eraseIdx j.toNat)))
theorem de_popAt {x : Str} {apos cpos : Pos} (i : Nat) (ha : DE X c W ex te) (hN : X.N[i]? = some x := by rfl) (hv : Vis X.env.scope x := by first | exact Or.inl rfl | exact Or.inr (Or.inl rfl) | exact Or.inr (Or.inr rfl)) (hd : (x == ("__debug__" : Str)) = false := by decide)
    (hcd : (x == ("__classdict__" : Str)) = false := by decide) (hbase : attributeBase (.Name x p) "pop" X.env (eval (.Name x p) X.env) = eval (.Name x p) X.env := by rfl)
    (hfew : ((backTo cpos (starEach [ex] X.env)).all (fun x => !x.1) && (backToKw cpos (keywordEach [] X.env)).all (fun x => x.1.isSome) && decide ([ex].length + ([] : List Keyword).length + (if ([] : List Keyword).isEmpty then 0 else 1) < 30)) = true := by rfl)
    (hline : (apos.endLine == cpos.line) = true := by rfl) (hs : starEach (ex :: []) X.env = (false, eval ex X.env) :: starEach [] X.env := by rfl) (hplain : (backTo cpos (starEach [] X.env)).any (·.1) = false := by rfl) :
    DE X c W (.Call (.Attribute (.Name x p) "pop" apos) [ex] [] cpos) (dPopAt i te) := by
  refine ⟨PE.imp (pe_bm PySem.F.plainAttrs_list PySem.F.slot_list_pop PySem.F.type_list_pop mt_popAt (pe_var hN hv hd hcd) (pa_cons ha.pe pa_nil hs) hbase hfew hline hs hplain) fun σ H Q ⟨G, e, Qd, Xd, rel, ⟨⟨ys, hys⟩, h⟩, hQ, hX⟩ => ?_⟩
  obtain ⟨a, vs, hσ, hH, _⟩ := rel.ol hys
  refine ⟨.ref a, hσ, .inl ⟨rfl, vs, .inl (.inl hH)⟩, G, e, _, Xd, rel, h, fun ρ e1 v G1 H1 s1 r1 h1 => ?_, hX⟩
  obtain ⟨j, xs, d, sd, hx, h0, h2, hj, h1⟩ := h1
  have ev := (r1.see s1.rel sd).int
  subst ev
  obtain ⟨b, ws, hσ', hH', rw'⟩ := s1.rel.ol hx
  rw [hσ] at hσ'
  cases hσ'
  obtain ⟨v, hv', rd⟩ := rw'.get' hj
  have hlt : j.toNat < ws.length := (List.getElem?_eq_some_iff.mp hv').1
  refine ⟨a, ws, j, j.toNat, v, rfl, rfl, hH', by omega, by omega, ?_, hv', ?_⟩
  · have hn : ¬ (j < 0) := by omega
    have hb : (decide (0 ≤ j) && decide (j < (ws.length : Int))) = true := by simp; omega
    unfold seqIndex?
    simp only [if_neg hn]
    rw [if_pos hb]
  · exact hQ (.d d) _ v _ _ (s1.trans rel (Step.mutl s1.rel hx hσ (rw'.eraseIdx j.toNat))) rd h1
end
section
variable {K : PySem.W.Frag}
theorem reps_strs {G : Hp} : ∀ zs : List Str, RepDs K G (zs.map D.str) (zs.map V.str)
  | [] => .nil
  | z :: r => .cons (.str z) (reps_strs r)
theorem zip_keysE {α : Type} : ∀ {ks : List Key} {vs : List α}, ks.length = vs.length → (ks.zip vs).map (·.1) = ks
  | [], [], _ => rfl
  | k :: ks, v :: vs, h => by rw [List.zip_cons_cons, List.map_cons, zip_keysE (by simpa using h)]
  | [], _ :: _, h => by simp at h
  | _ :: _, [], h => by simp at h
/-- sorted(d), d a dict with text keys -/
def r31SortD : R31 := fun d Q => ∃ (xs : List D) (zs : List Str), d = .dct (zs.map Sum.inr) xs ∧ zs.length < 64 ∧ ∀ ys : List Str, ys.Perm zs → sortedS ys = true → Q (.tl (ys.map D.str))
theorem u3_sortD : Un3 K (fun x H Q => ∃ (a : Addr) (kvs : List (Key × V)) (ks : List Str), [x] = [.ref a] ∧ Rd H a (.dK kvs) ∧ kvs.map (·.1) = ks.map Sum.inr ∧ ks.length < 64 ∧
    ∀ ys p, ys.Perm ks → sortedS ys = true → H p = none → Q (.ref p) (upd H p (.lst (ys.map V.str)))) r31SortD := by
  rintro G H d x Qr Q sg h ⟨xs, zs, rfl, hl, q⟩ k
  obtain ⟨a, vs, rfl, ha, hlen, rd⟩ := h.dct sg
  exact ⟨a, _, zs, rfl, .inl ha, zip_keysE hlen, hl, fun ys p h1 h2 hp => k _ _ _ _ (.nl hp (reps_strs ys)) (q ys h1 h2)⟩
end
end X1

/-! XE2: {text: True for ..} -/
namespace X1
open PySem PySem.Spec PyProof.Rows L2 L3
def kz (zs : List Str) : List (Key × V) := zs.map fun z => (Sum.inr z, V.bl true)
def putZ (zs : List Str) (z : Str) : List Str := if z ∈ zs then zs else zs ++ [z]
theorem kz_any (z : Str) : ∀ zs : List Str, ((kz zs).any fun kv => decide (kv.1 = Sum.inr z)) = decide (z ∈ zs)
  | [] => by simp [kz]
  | y :: r => by
    have ih := kz_any z r
    unfold kz at ih ⊢
    rw [List.map_cons, List.any_cons, ih]
    by_cases e : y = z
    · simp [e]
    · have e' : ¬ z = y := fun q => e q.symm
      simp [e, e']
theorem putK_kz (zs : List Str) (z : Str) : putK (kz zs) (Sum.inr z) (V.bl true) = kz (putZ zs z) := by
  unfold putK putZ
  rw [kz_any]
  by_cases h : z ∈ zs
  · rw [if_pos (by simpa using h), if_pos h]
    unfold kz
    rw [List.map_map]
    apply List.map_congr_left
    intro y _
    simp only [Function.comp]
    split <;> rfl
  · rw [if_neg (by simpa using h), if_neg h]
    simp [kz]
theorem kz_zip : ∀ zs : List Str, kz zs = (zs.map (Sum.inr : Str → Key)).zip (zs.map fun _ => V.bl true)
  | [] => rfl
  | z :: r => by
    have ih := kz_zip r
    unfold kz at ih ⊢
    rw [List.map_cons, List.map_cons, List.map_cons, List.zip_cons_cons, ← ih]
theorem kz_len (zs : List Str) : (kz zs).length = zs.length := by simp [kz]
theorem reps_true {K : PySem.W.Frag} {G : Hp} : ∀ zs : List Str, RepDs K G (zs.map fun _ => D.bl true) (zs.map fun _ => V.bl true)
  | [] => .nil
  | _ :: r => .cons (.bl true) (reps_true r)
def lcK (t : TGD) (tt : TDT) (te : TDE) (vs : List Nat) (Q : List Str → List S → Prop) : List D → List Str → List S → Prop
  | [], acc, e => Q acc e
  | x :: r, acc, e => t x e fun e2 => tt XF e2 fun b e3 => if b = true then te XF e3 fun ρ e4 => ∃ z, see e4 ρ = some (.str z) ∧ acc.length < 1000000 ∧ okV e4 vs ∧ lcK t tt te vs Q r (putZ acc z) (wipeE e4 vs) else okV e3 vs ∧ lcK t tt te vs Q r acc (wipeE e3 vs)
def dDcT (ti : TDI) (t : TGD) (tt : TDT) (te : TDE) (vs : List Nat) : TDE := fun Xd e Q => ti Xd e fun xs e1 => okV e1 vs ∧ lcK t tt te vs (fun zs e' => Q (.td (zs.map Sum.inr) (zs.map fun _ => .bl true)) (backE e' e1 vs)) xs [] (wipeE e1 vs)
/-- the state inside: the new dict is at L -/
structure LSd (K : PySem.W.Frag) (c : C0) (Gb Hb : Hp) (ow : Addr → Prop) (L : Addr) (n : Nat) (σ : L2.St) (G H : Hp) (e : List S) (zs : List Str) : Prop where
  ext : Ext0 c.tb Gb Hb ow G H
  rel : Rel K c G H σ e
  own : ∀ a, OwnAt σ e a → ow a
  hL : H L = some (.dK (kz zs))
  gL : G L = none
  len : e.length = n
section
variable {K : PySem.W.Frag} {c : C0} {Gb Hb : Hp} {ow : Addr → Prop} {L : Addr} {n : Nat} {σ σ' : L2.St} {G H G1 H1 : Hp} {e e1 : List S} {zs : List Str} {vs : List Nat}
theorem LSd.step (ls : LSd K c Gb Hb ow L n σ G H e zs) (nL : ¬ ow L) (bL : Hb L = none) (st : L3.Step K c σ G H e G1 H1 e1) : LSd K c Gb Hb ow L n σ G1 H1 e1 zs where
  ext := ⟨ls.ext.sg.trans st.sg, fun a o h k t => st.fr a o (ls.ext.fr a o h k t) (fun z => k (ls.own a z)) t, fun a h => by
    rcases st.gn a h with q | q | q
    · exact ls.ext.gn a q
    · cases z : Hb a with
      | none => exact .inr (.inl rfl)
      | some o => exact absurd q (ls.ext.th a (by rw [z]; simp))
    · exact .inr (.inr (ls.own a q)), fun a h => st.th a (ls.ext.th a h)⟩
  rel := st.rel
  own := fun a h => ls.own a (st.ow a h)
  hL := st.fr L _ ls.hL (fun z => nL (ls.own L z)) (ls.rel.tabs.ne fun ps z => by rw [ls.hL] at z; cases z)
  gL := by
    cases q : G1 L with
    | none => rfl
    | some o =>
      rcases st.gn L (by rw [q]; simp) with z | z | z
      · exact absurd ls.gL z
      · rw [ls.hL] at z; cases z
      · exact absurd (ls.own L z) nL
  len := by rw [← st.rel.len, ls.rel.len]; exact ls.len
theorem LSd.swap (ls : LSd K c Gb Hb ow L n σ G H e zs) (hl : σ'.length = σ.length) (hle : e1.length = e.length) (ho : okV e vs) (ho1 : okV e1 vs) (hs : ∀ j, j ∉ vs → σ'[j]? = σ[j]?) (he : ∀ j, j ∉ vs → e1[j]? = e[j]?)
    (hn : ∀ j ∈ vs, ∀ s, e1[j]? = some s → SlotR K G H s (σ'[j]?).join) : LSd K c Gb Hb ow L n σ' G H e1 zs :=
  ⟨ls.ext, ls.rel.swap hl hle ho ho1 hs he hn, fun a h => ls.own a (OwnAt.swap ho1 hs he h), ls.hL, ls.gL, by rw [hle]; exact ls.len⟩
theorem LSd.wipe (ls : LSd K c Gb Hb ow L n σ G H e zs) (ho : okV e vs) : LSd K c Gb Hb ow L n (L2.wipe σ vs) G H (wipeE e vs) zs :=
  ls.swap (wipe_length σ vs) (wipeE_len e vs) ho (okV_wipe e vs) (fun j h => wipe_at h) (fun j h => wipeE_out h) fun j hj s h => by
    rcases wipeE_at h with ⟨_, rfl⟩ | ⟨z, _⟩
    · trivial
    · exact absurd hj z
theorem LSd.put (z : Str) (ls : LSd K c Gb Hb ow L n σ G H e zs) (nL : ¬ ow L) (bL : Hb L = none) (cL : c.H0 L = none) : LSd K c Gb Hb ow L n σ G (upd H L (.dK (kz (putZ zs z)))) e (putZ zs z) where
  ext := ⟨ls.ext.sg, fun a o h k t => by
      have hne : a ≠ L := fun z => by subst z; rw [bL] at h; cases h
      rw [upd_ne hne]; exact ls.ext.fr a o h k t, ls.ext.gn, fun a h => by
      by_cases z : a = L
      · subst z; rw [upd_same]; simp
      · rw [upd_ne z]; exact ls.ext.th a h⟩
  rel := ⟨ls.rel.len, fun j s h => (ls.rel.sl j s h).mono (Same.refl _) fun a o q1 q2 q3 => by
      have hne : a ≠ L := fun z => by
        subst z
        refine nL (ls.own a ⟨j, s, h, q1, ?_⟩)
        cases w : σ[j]? with
        | none => rw [w] at q2; cases q2
        | some x => rw [w] at q2; cases q2; rfl
      rw [upd_ne hne]; exact q3, fun a o q => by
      have hne : a ≠ L := fun z => by subst z; rw [ls.gL] at q; cases q
      rw [upd_ne hne]; exact ls.rel.gh a o q, fun a o q1 q2 t => by
      have hne : a ≠ L := fun z => by subst z; rw [cL] at q1; cases q1
      rw [upd_ne hne]; exact ls.rel.keep a o q1 q2 t, ls.rel.gsub, ls.rel.gnew, ls.rel.own, ls.rel.inj, ls.rel.rfs, ls.rel.ln, ls.rel.tabs.upd ls.hL (fun ps z => nomatch z) (fun φ z => nomatch z), ls.rel.gt⟩
  own := ls.own
  hL := upd_same
  gL := ls.gL
  len := ls.len
end
section
variable {K : PySem.W.Frag} {c : C0} {W : WX} {ti : TDI} {t : TGD} {tt : TDT} {te : TDE} {vs ts : List Nat} {σ : L2.St} {H : Hp} {Q : VK}
theorem lift_dc (hts : ∀ j ∈ ts, j ∈ vs) (h : liftE K c W (dDcT ti t tt te vs) σ H Q) : tDc (liftI K c W ti) (liftG K c ts t) (liftT K c WF tt) (liftE K c WF te) (tC (.bl true)) vs σ H Q := by
  obtain ⟨G, e, Qd, Xd, rel, h, hQ, hX⟩ := h
  refine ⟨G, e, _, Xd, rel, h, fun xs e1 J G1 H1 s1 ok h1 => ?_, hX⟩
  obtain ⟨hv, h1⟩ := h1
  intro L hL
  have nL := s1.rel.freshO hL
  have cL := s1.rel.fresh0 hL
  have st0 := Step.ext s1.rel (same_upd (o := .dK []) hL) (Same.refl _) (s1.rel.gh.trans (same_upd hL)) fun a h => .inl h
  have ls0 : LSd K c G1 H1 (OwnAt σ e1) L e1.length σ G1 (upd H1 L (.dK [])) e1 [] := ⟨⟨st0.sg, st0.fr, st0.gn, st0.th⟩, st0.rel, fun _ h => h, upd_same, s1.rel.freshG hL, rfl⟩
  let I : Nat → Hp → Prop := fun i H' => ∃ (G' : Hp) (e' : List S) (zs : List Str), LSd K c G1 H1 (OwnAt σ e1) L e1.length (L2.wipe σ vs) G' H' e' zs ∧ Same G1 G' ∧ okV e' vs ∧
    lcK t tt te vs (fun zs e' => Qd (.td (zs.map Sum.inr) (zs.map fun _ => .bl true)) (backE e' e1 vs)) (xs.drop i) zs e'
  refine ⟨fun i m H' => m = xs.length - i ∧ i ≤ xs.length ∧ I i H', ⟨_, rfl, Nat.zero_le _, G1, _, [], ls0.wipe hv, Same.refl _, okV_wipe e1 vs, h1⟩, ?_⟩
  rintro i m H2 ⟨rfl, hi, G2, e2, zs, l2, sg, ov, h2⟩
  obtain ⟨ok1, ok2, ok3⟩ := ok G2 H2 sg l2.rel.gh
  by_cases hlt : i < xs.length
  · refine .inr ⟨ok1 i hlt, I (i + 1), fun H' q => ⟨xs.length - (i + 1), by omega, rfl, hlt, q⟩, fun v H3 y => ?_⟩
    obtain ⟨d, G3, hd, rd3, k1, k2, k3, k4⟩ := ok3 i v H3 y
    have hd := hd hlt
    have rd3 := rd3 hlt
    have hx : xs.drop i = d :: xs.drop (i + 1) := by
      rw [List.drop_eq_getElem_cons hlt]
      congr 1
      rw [List.getElem?_eq_getElem hlt] at hd
      exact Option.some.inj hd
    rw [hx] at h2
    have l3 := l2.step nL hL (Step.ext l2.rel k2 k1 k3 k4)
    refine ⟨G3, e2, d, _, l3.rel, rd3, h2, fun σ4 e4 r4 o4 p4 b4 q4 => ?_⟩
    have hw4 := only_wipe o4 hts
    refine ⟨hw4, ?_⟩
    have s4 : ∀ j, j ∉ vs → σ4[j]? = (L2.wipe σ vs)[j]? := fun j hj => o4.2 j fun z => hj (hts j z)
    have e42 : ∀ j, j ∉ vs → e4[j]? = e2[j]? := fun j hj => p4.2 j fun z => hj (hts j z)
    have ov4 : okV e4 vs := fun j hj s h => by
      by_cases z : j ∈ ts
      · exact b4 j z s h
      · rw [p4.2 j z] at h
        exact ov j hj s h
    have l4 : LSd K c G1 H1 (OwnAt σ e1) L e1.length σ4 G3 H3 e4 zs := ⟨l3.ext, r4, fun a z => l3.own a (OwnAt.swap ov4 s4 e42 z), l3.hL, l3.gL, by rw [p4.1]; exact l3.len⟩
    have again : ∀ {σ5 : L2.St} {G5 H5 : Hp} {e5 : List S} {zs5 : List Str}, LSd K c G1 H1 (OwnAt σ e1) L e1.length σ5 G5 H5 e5 zs5 → Same G1 G5 → L2.wipe σ5 vs = L2.wipe σ vs → okV e5 vs →
        lcK t tt te vs (fun zs e' => Qd (.td (zs.map Sum.inr) (zs.map fun _ => .bl true)) (backE e' e1 vs)) (xs.drop (i + 1)) zs5 (wipeE e5 vs) → I (i + 1) H5 := fun {σ5 G5 H5 e5 zs5} l5 g5 w5 o5 q5 => by
      have l6 := l5.wipe o5
      rw [w5] at l6
      exact ⟨G5, _, zs5, l6, g5, okV_wipe e5 vs, q5⟩
    refine ⟨G3, e4, _, XF, r4, q4, fun b e5 G5 H5 s5 h5 => ?_, ke_false⟩
    have l5 := l4.step nL hL s5
    have g5 : Same G1 G5 := sg.trans (k1.trans s5.sg)
    cases b with
    | false =>
      rw [if_neg Bool.false_ne_true] at h5
      show (if false = true then _ else _)
      rw [if_neg Bool.false_ne_true]
      exact again l5 g5 hw4 h5.1 h5.2
    | true =>
      rw [if_pos rfl] at h5
      show (if true = true then _ else _)
      rw [if_pos rfl]
      refine ⟨G5, e5, _, XF, l5.rel, h5, fun ρ e6 v6 G6 H6 s6 r6 h6 => ?_, ke_false⟩
      obtain ⟨z, sd, hlen, o6, h6⟩ := h6
      have ev := (r6.see s6.rel sd).str
      subst ev
      have l6 := l5.step nL hL s6
      refine ⟨kz zs, .inr z, rfl, l6.hL, by rw [kz_len]; exact Nat.lt_of_lt_of_le hlen mil, ?_⟩
      rw [putK_kz]
      exact again (l6.put z nL hL cL) (g5.trans s6.sg) hw4 o6 h6
  · have ei : i = xs.length := by omega
    subst ei
    refine .inl ⟨ok2 _ (Nat.le_refl _), ?_⟩
    rw [List.drop_length] at h2
    have oB : okV (backE e2 e1 vs) vs := fun j hj s h => by
      rcases backE_at h with ⟨_, rfl⟩ | ⟨z, _⟩
      · cases q : e1[j]? with
        | none => rfl
        | some s' => exact hv j hj s' q
      · exact absurd hj z
    have lB : LSd K c G1 H1 (OwnAt σ e1) L e1.length σ G2 H2 (backE e2 e1 vs) zs := l2.swap (by rw [wipe_length]) (backE_len e2 e1 vs) ov oB (fun j hj => (wipe_at hj).symm) (fun j hj => backE_out hj) fun j hj s h => by
      rcases backE_at h with ⟨_, rfl⟩ | ⟨z, _⟩
      · cases q : e1[j]? with
        | none => trivial
        | some s' =>
          have k := s1.rel.sl j s' q
          have o := hv j hj s' q
          cases s' with
          | no => trivial
          | d x => obtain ⟨w, hw, rw'⟩ := k; exact ⟨w, hw, RepD.mono l2.ext.sg rw'⟩
          | ol _ => cases o
          | od _ _ => cases o
          | well _ => cases o
          | wl _ => cases o
      · exact absurd hj z
    have sB : L3.Step K c σ G1 H1 e1 G2 H2 (backE e2 e1 vs) := ⟨lB.rel, lB.ext.sg, lB.ext.fr, lB.ext.gn, lB.own, lB.ext.th, s1.rel.tabs⟩
    refine hQ (.td (zs.map Sum.inr) (zs.map fun _ => .bl true)) _ (.ref L) G2 H2 (s1.trans rel sB) (RepR.back s1 (ρ := .td (zs.map Sum.inr) (zs.map fun _ => .bl true)) ⟨L, zs.map fun _ => V.bl true, rfl, ?_, by rw [List.length_map, List.length_map], reps_true zs, l2.gL, hL, fun z => s1.rel.freshO hL (sB.ow L z)⟩) h2
    rw [← kz_zip]
    exact lB.hL
end
section
variable {X : Cx} {c : C0} {W : WX} {kx tg iter : Expr} {ifs : List Expr} {scope : Scope} {pos : Pos} {ti : TDI} {t : TGD} {tt : TDT} {te : TDE} {ts : List Nat}
theorem de_dcT {jj : Nat} {jp : Pos} (hc : X.calm = true) (hN : X.N.Nodup) (own : List (Str × Nat)) (ok : blkC X.N X.env.scope scope own = true) (hi : DI X c W tg iter ti) (hg : ∀ s H C cl fp, DG (Blk X scope s H C cl fp) c tg ts t) (ht : ∀ s H C cl fp, DTs (Blk X scope s H C cl fp) c WF ifs tt)
    (he : ∀ s H C cl fp, DE (Blk X scope s H C cl fp) c WF kx te) (hts : ∀ j ∈ ts, j ∈ own.map (·.2) := by decide) (hs : ∀ x, foldedSetIterable iter X.env x = pure x := by intro _; rfl) :
    DE X c W (.DictComp kx (.Constant (.bool true) jj jp) [⟨tg, iter, ifs, 0⟩] scope pos) (dDcT ti t tt te (own.map (·.2))) :=
  ⟨PE.imp (pe_dc hc hN hi.pi (blkOk_by ok) (fun s H C cl fp => (hg s H C cl fp).pg) (fun s H C cl fp => (ht s H C cl fp).pts) (fun s H C cl fp => (he s H C cl fp).pe) (fun _ _ _ _ _ => pe_bl) hs) fun σ H Q h => lift_dc hts h⟩
end
section
variable {X : Cx} {c : C0} {W : WX} {elt tg iter tg1 iter1 : Expr} {ifs ifs1 : List Expr} {scope : Scope} {pos spos : Pos} {ti ti1 : TDI} {t t1 : TGD} {tt tt1 : TDT} {te : TDE} {ts ts1 : List Nat}
/-- name = [.. for .. for ..] on one line -/
theorem ds_setLc2 {i : Nat} {y : Str} {py : Pos} (hc : X.calm = true) (hN : X.N.Nodup) (own : List (Str × Nat)) (vs1 : List Nat) (ok : blkC X.N X.env.scope scope own = true) (hi : DI X c W tg iter ti) (hg : ∀ s H C cl fp, DG (Blk X scope s H C cl fp) c tg ts t) (ht : ∀ s H C cl fp, DTs (Blk X scope s H C cl fp) c WF ifs tt)
    (hi1 : ∀ s H C cl fp, DI (Blk X scope s H C cl fp) c WF tg1 iter1 ti1) (hg1 : ∀ s H C cl fp, DG (Blk X scope s H C cl fp) c tg1 ts1 t1) (ht1 : ∀ s H C cl fp, DTs (Blk X scope s H C cl fp) c WF ifs1 tt1)
    (he : ∀ s H C cl fp, DE (Blk X scope s H C cl fp) c WF elt te) (hy : X.N[i]? = some y := by rfl) (hyl : X.env.scope.names.lookup y = some .local := by rfl)
    (hsw : swapsWith (.ListComp elt [⟨tg, iter, ifs, 0⟩, ⟨tg1, iter1, ifs1, 0⟩] scope pos) (some (.Name y py)) spos.line X.env = pure true := by exact sw_true rfl rfl rfl (by decide +kernel))
    (hv : ∀ i ∈ vs1, i ∈ own.map (·.2) := by decide) (hts : ∀ j ∈ ts, j ∈ own.map (·.2) := by decide) (hts1 : ∀ j ∈ ts1, j ∈ vs1 := by decide) (hs : ∀ x, foldedSetIterable iter X.env x = pure x := by intro _; rfl) (hs1 : ∀ env x, foldedSetIterable iter1 env x = pure x := by intro _ _; rfl) :
    DS X c W (.Assign [.Name y py] (.ListComp elt [⟨tg, iter, ifs, 0⟩, ⟨tg1, iter1, ifs1, 0⟩] scope pos) spos) (dSet i (dLc2 ti t tt ti1 t1 tt1 te (own.map (·.2)) vs1)) :=
  ⟨PS.imp (ps_setLc2 hc hN hy hyl hsw hi.pi (blkOk_by ok) hv (fun s H C cl fp => (hg s H C cl fp).pg) (fun s H C cl fp => (ht s H C cl fp).pts) (fun s H C cl fp => (hi1 s H C cl fp).pi) (fun s H C cl fp => (hg1 s H C cl fp).pg) (fun s H C cl fp => (ht1 s H C cl fp).pts) (fun s H C cl fp => (he s H C cl fp).pe) hs hs1) fun Dx σ H h => lift_lc2 hts hts1 hv (lift_set h)⟩
end
end X1

/-! XE3: set(xs), xs a list of texts; sorted of it -/
namespace L2
open PySem PySem.Spec PyProof.Rows
open PySem.Froz (TxOk sObj addTx tailTx add_x add_ok is_str SD)
theorem perm_of_sub {α : Type} [BEq α] [LawfulBEq α] : ∀ {l zs : List α}, l.Nodup → (∀ x ∈ l, x ∈ zs) → zs.length ≤ l.length → zs.Perm l
  | [], zs, _, _, h => by
    have e : zs = [] := List.eq_nil_of_length_eq_zero (by simpa using h)
    rw [e]
  | a :: l, zs, nd, sub, h => by
    obtain ⟨n1, n2⟩ := List.nodup_cons.mp nd
    have ha := sub a List.mem_cons_self
    have p := List.perm_cons_erase ha
    refine p.trans (List.Perm.cons a (perm_of_sub n2 (fun x hx => ?_) ?_))
    · have hne : x ≠ a := fun z => n1 (z ▸ hx)
      exact (List.mem_erase_of_ne hne).mpr (sub x (List.mem_cons_of_mem _ hx))
    · have := p.length_eq
      simp only [List.length_cons] at this h
      omega
/-- the set of texts at a -/
def SetX (P : Program) (w : World) (h : Heap) (a : Addr) (l : List Str) : Prop :=
  ∃ D : SD, h.get? a = some (sObj "set" D) ∧ TxOk P w D l ∧ l.Nodup ∧ Ris D.2.2.place.toList ∧ (w.params.followText "set-order" = true ∨ D.2.2.led = true)
section
variable {P : Program} {w : World} {h h' : Heap} {a : Addr} {l : List Str}
theorem SetX.keep (R : SetX P w h a l) (k : ∀ o, h.get? a = some o → h'.get? a = some o) : SetX P w h' a l := by
  obtain ⟨D, q, r⟩ := R
  exact ⟨D, k _ q, r⟩
theorem addTx_tab {hh : Int} {v : Value} {D : SD} (r : Ris D.2.2.place.toList) : Ris (addTx hh v D).2.2.place.toList ∧ (addTx hh v D).2.2.led = D.2.2.led := by
  obtain ⟨es, ep, t⟩ := D
  have r1 := layNew_ris t es hh v r
  have l1 := layNew_led t es hh v
  have key : ∀ t2 : SetTable, Ris t2.place.toList → t2.led = t.led → ∀ (es1 : Array (Int × Value)) (b : Bool), Ris (tailTx ep es1 t2 b).2.2.place.toList ∧ (tailTx ep es1 t2 b).2.2.led = t.led := fun t2 q1 q2 es1 b => by
    unfold tailTx
    split
    · exact ⟨relayAll_ris t2 es1 _, (relayAll_led t2 es1 _).trans q2⟩
    · exact ⟨q1, q2⟩
  refine key _ ?_ ?_ _ _
  · by_cases c : (layNew t es hh v).2.1.plain = true
    · show Ris (if (layNew t es hh v).2.1.plain = true then _ else _ : SetTable).place.toList
      rw [if_pos c]; exact r1
    · show Ris (if (layNew t es hh v).2.1.plain = true then _ else _ : SetTable).place.toList
      rw [if_neg c]; exact r1
  · by_cases c : (layNew t es hh v).2.1.plain = true
    · show (if (layNew t es hh v).2.1.plain = true then _ else _ : SetTable).led = _
      rw [if_pos c]; exact l1
    · show (if (layNew t es hh v).2.1.plain = true then _ else _ : SetTable).led = _
      rw [if_neg c]; exact l1
end
section
variable {P : Program} {w : World} {A : Around} {E : Value → Shared → Prop} {s : Shared} {a : Addr} {l : List Str} {k : Str} {u : Tok}
theorem add_oldX {D : SD} {Q : Bool → Shared → Prop} (ho : s.heap.get? a = some (sObj "set" D)) (F : TxOk P w D l) (hk : k ∈ l) (hb : l.length < scanBound) (q : Q false s) : wpAny (model P w) A (setAddHashed a (.str k u) (hashStr w k)) Q E s := by
  obtain ⟨es, ep, t⟩ := D
  have f : t.fits es.size = true := F.fit
  have el : ElemsOf (PySem.strKind P w) es.toList := F.el
  have sz : es.size = l.length := F.sz
  obtain ⟨e, he, hq⟩ := (F.mem k).mp hk
  unfold setAddHashed setAddHashedIn
  refine wpAny_holding (wpAny_bind (wpAny_setState_of ho (show (sObj "set" (es, ep, t)).data = _ from rfl) f ?_))
  dsimp only
  rw [byScan_of (knd := PySem.strKind P w) (x := Value.str k u) rfl (by omega) el]
  simp only [↓reduceIte]
  unfold setAddByScan
  refine wpAny_bind (wpAny_bind (wpAny_rule (wpAny_bind (wpAny_setScan_of (knd := PySem.strKind P w) (k := k) (is_str k u) ho (show (sObj "set" (es, ep, t)).data = _ from rfl) f el ?_))))
  cases hfi : List.findIdx? (fun e => (PySem.strKind P w).is k e.2) es.toList with
  | none =>
    have c := List.findIdx?_eq_none_iff.mp hfi e he
    have hq' : (PySem.strKind P w).is k e.2 = true := hq
    rw [hq'] at c
    cases c
  | some j =>
    dsimp only
    exact wpAny_pure (wpAny_pure q)
theorem setX_add {Q : Bool → Shared → Prop} (R : SetX P w s.heap a l) (room : l.length + 1 < scanBound)
    (q : ∀ (b : Bool) (h' : Heap) (l' : List Str), Heap.SameBut a s.heap h' → SetX P w h' a l' → l'.length ≤ l.length + 1 → (∀ z, z ∈ l' ↔ z ∈ l ∨ z = k) → Q b { s with heap := h' }) : wpAny (model P w) A (setAddHashed a (.str k u) (hashStr w k)) Q E s := by
  obtain ⟨D, ho, F, nd, r, hl⟩ := R
  by_cases hk : k ∈ l
  · refine add_oldX ho F hk (by omega) ?_
    refine q false s.heap l (Heap.SameBut.refl a s.heap) ⟨D, ho, F, nd, r, hl⟩ (by omega) fun z => ⟨.inl, fun y => y.elim id fun e => e ▸ hk⟩
  · obtain ⟨r1, l1⟩ := addTx_tab (hh := hashStr w k) (v := .str k u) r
    refine add_x ho F hk room ?_
    refine q true _ (k :: l) (Heap.SameBut.update s.heap a _) ⟨_, PySem.Froz.get_upd _ ho rfl, add_ok u F, List.nodup_cons.mpr ⟨hk, nd⟩, r1, by rw [l1]; exact hl⟩ (by simp) fun z => by simp [or_comm]
end
section
variable {P : Program} {w : World} {A : Around} {R : Result → Shared → Prop} {I : Addr} {fp wr : List Addr} {G : Array GenState → Array GenState → Prop} {n : Nat} {Pv : Nat → Value → Prop} {St : Nat → Shared → Prop}
theorem loopX (W : WalksS P w A.in1 I fp wr G n Pv St) (S : Addr) (hf : S ∉ fp) (zs : List Str) (hn : zs.length = n) (room : n + 1 < scanBound) (hval : ∀ i v, Pv i v → ∃ z t, zs[i]? = some z ∧ v = Value.str z t) :
    ∀ (k i : Nat) (s : Shared), n - i = k → i ≤ n → St i s → (∃ l, SetX P w s.heap S l ∧ l.length ≤ i ∧ ∀ z, z ∈ l ↔ z ∈ zs.take i) →
      (∀ s' l, Moved (S :: wr) G s s' → SetX P w s'.heap S l → l.length ≤ n → (∀ z, z ∈ l ↔ z ∈ zs) → R (.ok (.ret .none)) s') → codeAny (model P w) A (.builtin "set.update.loop" ⟨[.ref S, .ref I], []⟩) R s := by
  have nw : S ∉ wr := fun q => hf (W.sub _ q)
  have up : ∀ b ∈ wr, b ∈ S :: wr := fun b q => List.mem_cons_of_mem _ q
  intro k
  induction k with
  | zero =>
    rintro i s e1 e2 st ⟨l, X, hl, hm⟩ fin
    obtain rfl : i = n := by omega
    refine codeAny_builtin PyProof.Rows.F.entry_set_update_loop ?_
    rw [Around.under_plainId PyProof.Rows.F.plain_set_update_loop _]
    show wpAny (model P w) A.in1 (pyNext (.ref I) >>= _) _ _ s
    refine wpAny_bind (W.done s _ _ st fun s1 mv => ?_)
    show wpAny (model P w) A.in1 (ret Value.none) _ _ s1
    refine wpAny_pure (fin s1 l (mv.mono up) (X.keep fun o q => mv.heap S o nw q) hl fun z => ?_)
    rw [hm z, ← hn, List.take_length]
  | succ k ih =>
    rintro i s e1 e2 st ⟨l, X, hl, hm⟩ fin
    have lt : i < n := by omega
    refine codeAny_builtin PyProof.Rows.F.entry_set_update_loop ?_
    rw [Around.under_plainId PyProof.Rows.F.plain_set_update_loop _]
    show wpAny (model P w) A.in1 (pyNext (.ref I) >>= _) _ _ s
    refine wpAny_bind (W.item i s _ _ lt st fun v s1 pv st1 mv => ?_)
    obtain ⟨z, t, hz, rfl⟩ := hval i v pv
    have X1 : SetX P w s1.heap S l := X.keep fun o q => mv.heap S o nw q
    show wpAny (model P w) A.in1 (holding [Value.str z t] (setAdd S (.str z t)) >>= _) _ _ s1
    refine wpAny_bind (wpAny_holding ?_)
    unfold setAdd
    refine wpAny_holding (wpAny_bind ((PySem.strKind P w).pyHash (k := z) (is_str z t) ?_))
    refine setX_add (s := { s1 with toks := s1.toks + 1 }) X1 (by omega) fun b h' l' sb X2 hl' hm' => ?_
    have next : ∃ l, SetX P w h' S l ∧ l.length ≤ i + 1 ∧ ∀ y, y ∈ l ↔ y ∈ zs.take (i + 1) := ⟨l', X2, by omega, fun y => by
      have e : zs.take (i + 1) = zs.take i ++ [z] := by
        rw [List.take_succ, hz] <;> rfl
      rw [hm' y, hm y, e, List.mem_append, List.mem_singleton]⟩
    refine wpAny_pure ⟨plainId_quiet PyProof.Rows.F.plain_set_update_loop _, ih (i + 1) _ (by omega) lt (W.frame _ s1 _ _ st1 (Nat.le_succ _) fun b hb o q => ?_) next fun s2 l2 mv2 X3 hl3 hm3 => fin s2 l2 (Moved.trans W.gtrans ((mv.mono up).then_heap (Nat.le_succ _) fun b o hb q => ?_) mv2) X3 hl3 hm3⟩
    · rw [sb.2 b (fun y : b = S => hf (by rw [← y]; exact hb))]
      exact q
    · rw [sb.2 b (fun y : b = S => hb (by rw [y]; exact List.mem_cons_self))]
      exact q
end
/-- a new set -/
abbrev newS (w : World) : Obj := { cls := .type "set", dict := none, data := .set #[] 0 (.fresh 0 0 (!w.params.followText "set-order")) }
theorem newS_ok {P : Program} {w : World} {h : Heap} {a : Addr} (ho : h.get? a = some (newS w)) : SetX P w h a [] := by
  refine ⟨(#[], 0, .fresh 0 0 (!w.params.followText "set-order")), ho, TxOk.nil rfl, List.nodup_nil, List.Pairwise.nil, ?_⟩
  show _ ∨ (!w.params.followText "set-order") = true
  cases w.params.followText "set-order"
  · exact .inr rfl
  · exact .inl rfl
section
variable {P : Program} {w : World} {A : Around} {E : Value → Shared → Prop} {s : Shared}
set_option maxHeartbeats 3200000 in
theorem call_setX {p : Addr} {items : Array Value} {zs : List Str} {Q : Value → Shared → Prop} (hh : A.handled = none) (hl : s.heap.IsList p items) (hz : StrsAre items.toList zs) (room : zs.length + 1 < scanBound)
    (h : ∀ (h' : Heap) (tk : Nat) (l : List Str), SetX P w h' s.heap.objs.size l → l.length ≤ zs.length → (∀ z, z ∈ l ↔ z ∈ zs) → (∀ b o, s.heap.get? b = some o → h'.get? b = some o) → Q (.ref s.heap.objs.size) { s with heap := h', toks := tk }) :
    wpAny (model P w) A (call (.type "set") [.ref p]) Q E s := by
  have hsz : zs.length = items.size := by rw [← StrsAre.len_eq hz, Array.length_toList]
  obtain ⟨c, tl, m0⟩ := F.called_set.mro
  have m1 := F.called_set.made
  have m2 := F.called_set.sub
  refine wpAny_call (codeAny_of_tree ?_)
  show wpAny (model P w) _ (callAny (.type "set") _) _ _ _
  refine wpAny_pure ⟨(Code.quiet_builtin _ (by decide +kernel)), codeAny_builtin F.entry_type_call ?_⟩
  rw [Around.under_plain (weight_type_call_type "set" [Value.ref p] []) rfl]
  have m3 := F.called_set.notType
  have m4 := F.called_set.canCreate
  have m5 := F.typeCall_set_1 (.ref p)
  repeat (any_goals (first | assumption | wp_step))
  refine codeAny_mono (code_set_led1 (.ref p) (E := E) (Q₁ := fun x s₁ => x = .ref s.heap.objs.size ∧ s₁ = { s with heap := s.heap.push (newS w) }) ⟨rfl, rfl⟩) fun r s₁ hr => ?_
  cases r with
  | error e => exact hr
  | ok fl =>
    cases fl with
    | ret x =>
      obtain ⟨rfl, rfl⟩ := hr
      have oS : (s.heap.push (newS w)).get? s.heap.objs.size = some (newS w) := Heap.get?_push_size _ rfl
      have tS : Shared.TypeIs { s with heap := s.heap.push (newS w) } (.ref s.heap.objs.size) "set" := ⟨_, oS, rfl⟩
      have i1 := F.called_set.init.lookup
      have i2 := F.called_set.init.bind (.ref s.heap.objs.size)
      repeat (any_goals (first | assumption | wp_step))
      refine codeAny_mono (codeAny_call_builtin (R := wants (fun r s₂ => r = .none ∧ ∃ h' tk l, s₂ = { s with heap := h', toks := tk } ∧ SetX P w h' s.heap.objs.size l ∧ l.length ≤ zs.length ∧ (∀ z, z ∈ l ↔ z ∈ zs) ∧ (∀ b o, s.heap.get? b = some o → h'.get? b = some o)) E)
        F.called_set.init.plain F.entry_set_init (check_set_init_1 tS ?_)) fun r₂ s₂ hr₂ => ?_
      · obtain ⟨ol, g1, g2, nl, g3⟩ := hl
        obtain ⟨oc, od, odt, osl⟩ := ol
        simp only at g2 g3
        subst g2
        subst g3
        have g4 : (s.heap.push (newS w)).get? p = some { cls := .type "list", dict := od, data := .seq items nl, slots := osl } := Heap.get?_push_of_some _ g1
        have b1 := F.sub_list_set
        have b2 := F.sub_list_frozenset
        have b3 : (Value.type "list" == Value.type "dict") = false := by decide
        have g5 : (s.heap.push (newS w)).IsList p items := ⟨_, g4, rfl, nl, rfl⟩
        unfold Builtin.«set.__init__» noKeywords Builtin.Frozenset.updateFrom
        generalize hPI : pyIter = PI
        wp_walk
        subst hPI
        refine wpAny_pyIter_list g5 (wpAny_bind (wpAny_runValue ?_))
        have lS : p < s.heap.objs.size := Heap.lt_size g1
        have h3 : A.in1.in1.in1.handled = none := by simp [hh]
        have z1 : (s.heap.push (newS w)).objs.size = s.heap.objs.size + 1 := Heap.size_push ..
        have n1 : p ≠ (s.heap.push (newS w)).objs.size := by rw [z1]; exact Nat.ne_of_lt (Nat.lt_succ_of_lt lS)
        have n2 : s.heap.objs.size ∉ [(s.heap.push (newS w)).objs.size, p] := by
          rw [z1]
          simp only [List.mem_cons, List.not_mem_nil, or_false, not_or]
          exact And.intro (Nat.ne_of_lt (Nat.lt_succ_self _)) (Nat.ne_of_gt lS)
        have hval : ∀ (i : Nat) (v : Value), items[i]? = some v → ∃ z t, zs[i]? = some z ∧ v = Value.str z t := fun i v hv => by
          have q : items.toList[i]? = some v := by rw [Array.getElem?_toList]; exact hv
          obtain ⟨t, e⟩ := SS.strs_at hz i v q
          have hi : i < zs.length := by
            rw [hsz]
            exact (Array.getElem?_eq_some_iff.mp hv).1
          refine ⟨zs[i], t, List.getElem?_eq_getElem hi, ?_⟩
          rw [e]
          simp [hi]
        refine loopX ((Walks.list h3 _ p n1 items).toS) s.heap.objs.size n2 zs hsz (by rw [← hsz]; exact room) hval (items.size - 0) 0 _ (by omega) (Nat.zero_le _) ⟨⟨_, Heap.get?_push_size _ rfl, rfl, rfl⟩, (g5.push _)⟩
          ⟨[], newS_ok (Heap.get?_push_of_some _ oS), Nat.le_refl _, fun z => by simp⟩ fun s' l mv X hl' hm => ?_
        obtain ⟨h', g', d', tk', os'⟩ := s'
        have q1 : g' = s.gens := mv.gens
        have q2 : d' = s.drawn := mv.drawn
        have q3 : os' = s.os := mv.os
        subst q1
        subst q2
        subst q3
        show wpAny _ _ _ _ _ _
        refine wpAny_pure ?_
        show wpAny _ _ (ret Value.none) _ _ _
        refine wpAny_pure ⟨rfl, h', tk', l, rfl, X, by rw [hsz]; exact hl', hm, fun b o e => ?_⟩
        have lb := Heap.lt_size e
        refine mv.heap b o ?_ (Heap.get?_push_of_some _ (Heap.get?_push_of_some _ e))
        rw [z1]
        simp only [List.mem_cons, List.not_mem_nil, or_false, not_or]
        exact And.intro (Nat.ne_of_lt lb) (Nat.ne_of_lt (Nat.lt_succ_of_lt lb))
      · cases r₂ with
        | error e => exact hr₂
        | ok fl₂ =>
          cases fl₂ with
          | ret r =>
            obtain ⟨rfl, h', tk, l, rfl, X, hl', hm, hk⟩ := hr₂
            repeat (any_goals (first | assumption | wp_step))
            exact h _ _ l X hl' hm hk
          | _ => exact hr₂.elim
    | _ => exact hr.elim
theorem setX_strs {es : Array (Int × Value)} {ep : Nat} {t : SetTable} {l : List Str} {vs : List Value} (F : TxOk P w (es, ep, t) l) (nd : l.Nodup) (pm : vs.Perm (es.toList.map (·.2))) : ∃ zs, StrsAre vs zs ∧ zs.Perm l := by
  have all : ∀ v ∈ vs, ∃ x u, v = Value.str x u := fun v hv => by
    obtain ⟨e, he, q⟩ := List.mem_map.mp (pm.mem_iff.mp hv)
    obtain ⟨⟨k, hk, _⟩, _⟩ := F.el e he
    obtain ⟨u, hu⟩ := Value.isStrOf_shape hk
    exact ⟨k, u, by rw [← q]; exact hu⟩
  have hS : StrsAre vs (vs.map strOf) := strsAre_map vs all
  refine ⟨vs.map strOf, hS, perm_of_sub nd (fun z hz => ?_) ?_⟩
  · obtain ⟨e, he, hq⟩ := (F.mem z).mp hz
    obtain ⟨u, hu⟩ := Value.isStrOf_shape hq
    have hv : e.2 ∈ vs := pm.mem_iff.mpr (List.mem_map.mpr ⟨e, he, rfl⟩)
    refine List.mem_map.mpr ⟨e.2, hv, ?_⟩
    rw [hu]
    rfl
  · rw [List.length_map, pm.length_eq, List.length_map, Array.length_toList]
    exact Nat.le_of_eq F.sz
theorem sorted_setX {a : Addr} {l : List Str} {Q : Value → Shared → Prop} (R : SetX P w s.heap a l) (hh : A.handled = none) (h64 : l.length < 64)
    (q : ∀ s' p (out : Array Value) (c : Nat) (ys : List Str), (∀ b o, s.heap.get? b = some o → s'.heap.get? b = some o) → s'.gens = s.gens → s'.os = s.os → s.heap.objs.size ≤ p → s'.heap.get? p = some (seqObj "list" out c) →
      StrsAre out.toList ys → ys.Perm l → sortedS ys = true → Q (.ref p) s') : wpAny (model P w) A (call (.builtin "sorted") [.ref a]) Q E s := by
  obtain ⟨⟨es, ep, t⟩, ho, F, nd, r, hl⟩ := R
  have f : t.fits es.size = true := F.fit
  have sz : es.size = l.length := F.sz
  refine Calls.call_function_entry PyProof.Rows.kind_sorted PyProof.Rows.plain_sorted PyProof.Rows.entry_sorted (PyProof.Rows.args_sorted1 _) ?_
  unfold Builtin.«sorted»
  refine wpAny_bind (m := checkCount "sorted" 1 1 _) (wpAny_pure (wpAny_bind (collect_set (A := A.in1) (es := es) (ep := ep) (t := t) hh ⟨_, ho, rfl, rfl⟩ f (by unfold scanBound; omega) r hl fun s1 vs k1 hz g1 o1 pm => ?_)))
  obtain ⟨zs, hS, pz⟩ := setX_strs F nd pm
  have hvl : vs.length < 64 := by rw [StrsAre.len_eq hS, pz.length_eq]; exact h64
  refine wpAny_bind (wpAny_newList ?_ (by rw [sizeLine_eq]; omega))
  have oL : (s1.heap.push (seqObj "list" vs.toArray 0)).get? s1.heap.objs.size = some (seqObj "list" vs.toArray 0) := Heap.get?_push_size _ rfl
  refine wpAny_bind (wpAny_holding (wpAny_call_entry PyProof.Rows.slot_list_sort ⟨_, oL, rfl⟩ PyProof.Rows.entry_list_sort
    (list_sort_treeK strKind_oneLt oL hS.keysOf (fun v₁ v₂ rest e => keyKind_strs (by rw [← e]; exact hS)) hvl fun st' hp hs => ⟨_, rfl, ?_⟩) (PyProof.Rows.args_list_sort _)))
  obtain ⟨ys, k2, k3, k4⟩ := sorted_out_str hS hp hs
  obtain ⟨c, hc⟩ := PyProof.Rows.sortedHeap_at (vs := vs) (out := (arrOf st').map (·.2)) oL
  refine wpAny_pure ⟨_, rfl, q _ s1.heap.objs.size _ c ys (fun b u e => ?_) g1 o1 hz hc k2 (k3.trans pz) k4⟩
  have e1 := k1 b u e
  have lt := Heap.lt_size e1
  show (PyProof.Rows.sortedHeap (s1.heap.push (seqObj "list" vs.toArray 0)) s1.heap.objs.size vs ((arrOf st').map (·.2))).get? b = some u
  rw [PyProof.Rows.sortedHeap_old (Nat.ne_of_lt lt) (by rw [size_push']; exact Nat.lt_succ_of_lt lt)]
  exact Heap.get?_push_of_some _ e1
end
/-- the set as a tracked thing -/
def SetXO (P : Program) (w : World) (a : Addr) (l : List Str) : HO := .ext fun h => SetX P w h a l
section
variable {X : Cx}
def rSetX (K : PySem.W.Frag) (P : Program) (w : World) : List V → Hp → VK → Prop := fun xs H Q => ∃ (p : Addr) (zs : List Str), xs = [V.ref p] ∧ SqL K H p (zs.map V.str) ∧ zs.length < 64 ∧
  ∀ a l, H a = none → l.length < 64 → (∀ z, z ∈ l ↔ z ∈ zs) → l.Nodup → Q (.ref a) (upd H a (SetXO P w a l))
theorem cr_setX (hc : X.calm = true) : CallR X (.type "set") (rSetX X.K X.prog X.w) := by
  intro pins s σ H xs us Q I r h
  obtain ⟨p, zs, rfl, hl, hz, q⟩ := h
  rw [Vals.ref1 r]
  obtain ⟨its, rv, pl, hs⟩ := I.list hl
  have hn : H s.heap.objs.size = none := I.hok.fresh (Nat.le_refl _)
  refine call_setX (P := X.prog) (w := X.w) (zs := zs) (I.ok.hd hc) pl.isList (by simpa using rv.strs) (by unfold scanBound; omega) fun h' tk l R hl' hm k => ?_
  have R' := R
  obtain ⟨D, ho, _, nd, _⟩ := R'
  exact ⟨.ref s.heap.objs.size, upd H s.heap.objs.size (SetXO X.prog X.w s.heap.objs.size l), I.laid (t' := tk) k (Nat.le_refl _) ⟨R, ⟨_, ho⟩, fun h1 h2 m k => SetX.keep m k⟩, rfl, q _ l hn (by omega) hm nd⟩
def rSortX (P : Program) (w : World) : List V → Hp → VK → Prop := fun vs H Q => ∃ (a : Addr) (l : List Str), vs = [V.ref a] ∧ H a = some (SetXO P w a l) ∧ l.length < 64 ∧
  ∀ (ys : List Str) (p : Addr), ys.Perm l → sortedS ys = true → H p = none → Q (.ref p) (upd H p (.lst (ys.map V.str)))
theorem cr_sortX (hc : X.calm = true) : CallR X (.builtin "sorted") (rSortX X.prog X.w) := by
  intro pins s σ H vs us Q I r h
  obtain ⟨a, l, rfl, ha, h64, q⟩ := h
  have R : SetX X.prog X.w s.heap a l := (I.hok a _ ha).1
  rw [Vals.ref1 r]
  refine sorted_setX R (I.ok.hd hc) h64 fun s' p out c ys k g o hp hg hi pm hs => ?_
  have hlen : (ys.map V.str).length ≤ sizeLine := by
    rw [List.length_map, pm.length_eq, sizeLine_eq]
    omega
  have hn : H p = none := I.hok.fresh hp
  have J : Inv X pins σ (upd H p (.lst (ys.map V.str))) { s with heap := s'.heap, gens := s'.gens, drawn := s'.drawn, toks := s'.toks } :=
    I.call (ch := []) (Un.laid k hp hn) (I.hok.laid k hp ⟨hlen, out.toList, c, vals_of_strs hi, hg⟩) (by rw [g]; exact I.bare) (fun _ z => nomatch z)
  have e : s' = { s with heap := s'.heap, gens := s'.gens, drawn := s'.drawn, toks := s'.toks } := by
    cases s'
    cases s
    cases o
    rfl
  rw [e]
  exact ⟨.ref p, _, J, rfl, q ys p pm hs hn⟩
end
end L2
namespace X1
open PySem PySem.Spec PyProof.Rows L2 L3
def strsOf : List D → Option (List Str)
  | [] => some []
  | .str z :: r => (strsOf r).map (z :: ·)
  | _ :: _ => none
theorem strs_vals {K : PySem.W.Frag} {G : Hp} : ∀ {xs : List D} {vs : List V} {zs : List Str}, RepDs K G xs vs → strsOf xs = some zs → vs = zs.map V.str
  | _, _, _, .nil, e => by cases e; rfl
  | .str b :: r, _, zs, .cons h q, e => by
    simp only [strsOf, Option.map_eq_some_iff] at e
    obtain ⟨cs, e1, rfl⟩ := e
    cases h
    rw [strs_vals q e1]; rfl
  | .non :: _, _, _, .cons _ _, e => by cases e
  | .int _ :: _, _, _, .cons _ _, e => by cases e
  | .bl _ :: _, _, _, .cons _ _, e => by cases e
  | .tup _ :: _, _, _, .cons _ _, e => by cases e
  | .lst _ :: _, _, _, .cons _ _, e => by cases e
  | .dct _ _ :: _, _, _, .cons _ _, e => by cases e
  | .ins _ _ _ :: _, _, _, .cons _ _, e => by cases e
/-- sorted(set(xs)) -/
def r31SortSet : R31 := fun d Q => ∃ xs zs, d = .lst xs ∧ strsOf xs = some zs ∧ zs.length < 64 ∧ ∀ ys l : List Str, ys.Perm l → l.Nodup → (∀ z, z ∈ l ↔ z ∈ zs) → sortedS ys = true → Q (.tl (ys.map D.str))
section
variable {X : Cx} {c : C0} {W : WX} {ex : Expr} {te : TDE} {p p2 pos pos2 : Pos}
theorem de_sortSet (hc : X.calm = true) (hm : X.mg "sorted" = none) (hv : bootBuiltins "sorted" = some (.builtin "sorted")) (hm2 : X.mg "set" = none) (hv2 : bootBuiltins "set" = some (.type "set")) (ha : DE X c W ex te) (hg : Gl X "sorted" := by rfl) (hg2 : Gl X "set" := by rfl)
    (he : starEach (ex :: []) X.env = (false, eval ex X.env) :: starEach [] X.env := by rfl) (hpl : (backTo pos2 (starEach [] X.env)).any (·.1) = false := by rfl)
    (he1 : starEach (Expr.Call (.Name "set" p2) [ex] [] pos2 :: []) X.env = (false, eval (Expr.Call (.Name "set" p2) [ex] [] pos2) X.env) :: starEach [] X.env := by rfl) (hpl1 : (backTo pos (starEach [] X.env)).any (·.1) = false := by rfl) :
    DE X c W (.Call (.Name "sorted" p) [.Call (.Name "set" p2) [ex] [] pos2] [] pos) (dUn r31SortSet te) := by
  refine ⟨PE.imp (pe_callB (r := rSortX X.prog X.w) (cr_sortX hc) hg hm hv (pa_cons (pe_callTy (cr_setX hc) hg2 hm2 hv2 (pa_cons ha.pe pa_nil he) (by decide) (by decide) he hpl) pa_nil he1) (by decide) (by decide) he1 hpl1) fun σ H Q h => ?_⟩
  obtain ⟨G, e, Qd, Xd, rel, h, hQ, hX⟩ := h
  refine ⟨G, e, _, Xd, rel, h, fun ρ1 e1 v1 G1 H1 st1 r1 h1 => ?_, hX⟩
  obtain ⟨d, sd, xs, zs, rfl, hz, hl, q⟩ := h1
  obtain ⟨b, vs, rfl, hb, rd⟩ := (r1.see st1.rel sd).lst st1.rel.gh
  have ev := strs_vals rd hz
  subst ev
  refine ⟨b, zs, rfl, .inl (.inl hb), hl, fun a l hn h64 hm nd => ?_⟩
  have st2 := Step.ext st1.rel (same_upd (o := SetXO X.prog X.w a l) hn) (Same.refl _) (st1.rel.gh.trans (same_upd hn)) fun a h => .inl h
  refine ⟨a, l, rfl, upd_same, h64, fun ys p pm hs hp => ?_⟩
  obtain ⟨st3, r3⟩ := (Out.nl (G := G1) (xs := ys.map D.str) hp (reps_strs (K := X.K) ys)).step st2.rel
  have st := st1.trans rel (st2.trans st1.rel st3)
  exact hQ (.tl (ys.map D.str)) e1 _ _ _ st (r3.back (st1.trans rel st2)) (q ys l pm nd hm hs)
end
end X1

namespace Law
open PySem PySem.Spec PyProof.Rows L2 L3
local macro_rules | `(tactic| walk_at "l3") => `(tactic| (repeat first
  | (with_reducible refine x_seq ?_)
  | (with_reducible refine x_next ?_)
  | (with_reducible refine x_cont ?_)
  | (with_reducible refine x_break ?_)
  | (with_reducible refine x_drop ?_)
  | (with_reducible refine x_ret ?_)
  | (with_reducible refine x_ifs ?_)
  | (with_reducible refine X1.x_raise1 ?_)
  | (with_reducible refine X1.x_raise2 ?_)
  | (with_reducible refine X1.x_try ?_)
  | (with_reducible refine x_set ?_)
  | (with_reducible refine x_asg ?_)
  | (with_reducible refine x_par ?_)
  | (with_reducible refine x_wset ?_)
  | (with_reducible refine x_b ?_)
  | (with_reducible refine x_not ?_)
  | (with_reducible refine x_and ?_)
  | (with_reducible refine x_or ?_)
  | (with_reducible refine x_andV ?_)
  | (with_reducible refine x_orV ?_)
  | (with_reducible refine x_notV ?_)
  | (with_reducible refine x_if ?_)
  | (with_reducible refine x_yes ?_)
  | (with_reducible refine x_c ?_)
  | (with_reducible refine x_bin ?_)
  | (with_reducible refine x_un ?_)
  | (with_reducible refine x_chain ?_)
  | (with_reducible refine x_nil ?_)
  | (with_reducible refine x_cons ?_)
  | (with_reducible refine x_star ?_)
  | (with_reducible refine x_starK ?_)
  | (with_reducible refine x_tup ?_)
  | (with_reducible refine x_lst ?_)
  | (with_reducible refine x_dict0 ?_)
  | (with_reducible refine x_call ?_)
  | (with_reducible refine x_callR ?_)
  | (with_reducible refine x_sl ?_)
  | (with_reducible refine x_slS ?_)
  | (with_reducible refine x_part ?_)
  | (with_reducible refine x_nopart ?_)
  | (with_reducible refine x_ixK ?_)
  | (with_reducible refine x_inK ?_)
  | (with_reducible refine x_notInK ?_)
  | (with_reducible refine x_for ?_)
  | (with_reducible refine x_iseq ?_)
  | (with_reducible refine x_irng ?_)
  | (with_reducible refine x_gnil ?_)
  | (with_reducible refine x_gcons ?_)
  | (with_reducible refine x_see1 ?_)
  | (with_reducible refine x_seel ?_)
  | (with_reducible refine x_seeb ?_)
  | (with_reducible refine x_seei ?_)
  | (with_reducible refine x_sees ?_)
  | (with_reducible refine x_slt ?_)
  | (with_reducible refine x_sll ?_)
  | ((with_reducible apply x_getk); (first | assumption | exact rfl))
  | (with_reducible refine x_ift ?_)
  | (with_reducible refine x_iff ?_)
  | (with_reducible refine x_plus_i ?_)
  | (with_reducible refine x_sub_i ?_)
  | (with_reducible refine x_lt ?_)
  | (with_reducible refine x_le ?_)
  | (with_reducible refine x_gt ?_)
  | (with_reducible refine x_ge ?_)
  | (with_reducible refine x_eq_i ?_)
  | (with_reducible refine x_ne_i ?_)
  | (with_reducible refine x_is_n ?_)
  | (with_reducible refine x_isnot_n ?_)
  | (with_reducible refine x_in_s ?_)
  | (with_reducible refine x_list_t ?_)
  | (with_reducible refine x_int_i ?_)
  | (with_reducible refine x_int_b ?_)
  | (with_reducible refine x_abs ?_)
  | ((with_reducible apply x_mod); (focus first | assumption | omega))
  | ((with_reducible apply x_div); (focus first | assumption | omega); (focus first | assumption | omega))
  | ((with_reducible apply x_star_i); (focus first | assumption | exact Or.inl ⟨by decide, by decide⟩ | exact Or.inr ⟨by omega, by omega⟩))
  | ((with_reducible apply x_pow); (focus first | assumption | exact ⟨by decide, by decide, by decide⟩))
  | ((with_reducible apply x_wsetn); (exact rfl); (exact rfl); (exact rfl))
  | (with_reducible refine x_list_l ?_)
  | ((with_reducible apply x_var); (exact rfl))
  | ((with_reducible apply X1.x_callV); (exact rfl))
  | ((with_reducible apply X1.x_thunk); (exact rfl))
  | ((with_reducible apply X1.x_rz1); (exact rfl))
  | ((with_reducible apply X1.x_rz2); (exact rfl))
  | ((with_reducible apply X1.x_isC); (assumption))
  | ((with_reducible apply x_isi); (first | exact rfl | assumption))
  | ((with_reducible apply x_gname); (exact rfl); (first | exact rfl | assumption))
  | ((with_reducible apply x_gtup); (exact rfl))
  | ((with_reducible apply x_ref); (exact rfl); (exact rfl))
  | (with_reducible refine x_ix_t0 ?_)
  | (with_reducible refine x_ix_l0 ?_)
  | (with_reducible refine x_ix_t1 ?_)
  | (with_reducible refine x_ix_l1 ?_)
  | (with_reducible refine x_ix_t2 ?_)
  | (with_reducible refine x_ix_l2 ?_)
  | ((with_reducible apply x_ix_l); (exact rfl))
  | ((with_reducible apply x_ix_t); (exact rfl))
  | ((with_reducible apply x_wix); (exact rfl); (exact rfl))
  | ((with_reducible apply x_len_l); (focus first | assumption | omega | (simp; done) | (simp; omega)))
  | ((with_reducible apply x_len_t); (focus first | assumption | omega | (simp; done) | (simp; omega)))
  | ((with_reducible apply x_plus_l); (focus first | assumption | omega | (simp; done) | (simp; omega)))
  | ((with_reducible apply x_app); (exact rfl))
  | ((with_reducible apply x_ext); (exact rfl))
  | ((with_reducible apply x_see2); (exact rfl); (exact rfl))
  | ((with_reducible apply x_seesl); (exact rfl))
  | ((with_reducible apply x_asgn); (exact rfl); (first | exact rfl | assumption); (exact rfl))
  | ((with_reducible apply x_parn); (focus (intro _ z; cases z; done)); (focus (intro _ z; cases z; done)); (exact rfl); (first | exact rfl | assumption); (exact rfl); (first | exact rfl | assumption); (exact rfl); (exact rfl))
  | ((with_reducible apply x_dats); (exact rfl); (focus first | omega | (simp; done) | (simp; omega)))
  | ((with_reducible apply x_callg); (exact rfl); (exact rfl))
  | ((with_reducible apply x_items); (exact rfl); (exact rfl))
  | ((with_reducible apply x_tail); (exact rfl))
  | ((with_reducible apply x_extn); (exact rfl); (exact rfl); (focus first | assumption | omega | (simp; done) | (simp; omega)))
  | ((with_reducible apply x_appn); (exact rfl); (exact rfl); (focus first | assumption | omega | (simp; done) | (simp; omega)))
  | ((with_reducible apply x_ifp); (exact rfl))
  | ((with_reducible apply x_ifn); (exact rfl))
  | (dsimp only [fz, List.set_cons_zero, List.set_cons_succ, startE, List.replicate, List.length_cons, List.length_nil, List.cons_append, List.nil_append, Nat.reduceAdd, Nat.reduceSub, Int.reduceToNat, merge, Bool.false_eq_true, if_false])))
open X1
def top (i : Nat) : Stmt := PySem.Challenge.pw_provenruns_k01_statements_and_their_part.main.body.getD i (.Pass ⟨0, 0, 0, 0⟩)
def gId : GK := fun a b => a ++ b
theorem bv_abs : bootBuiltins "abs" = some (.builtin "abs") := by decide +kernel
theorem bv_all : bootBuiltins "all" = some (.builtin "all") := by decide +kernel
theorem bv_any : bootBuiltins "any" = some (.builtin "any") := by decide +kernel
theorem bv_int : bootBuiltins "int" = some (.type "int") := by decide +kernel
theorem bv_isinstance : bootBuiltins "isinstance" = some (.builtin "isinstance") := by decide +kernel
theorem bv_len : bootBuiltins "len" = some (.builtin "len") := by decide +kernel
theorem bv_list : bootBuiltins "list" = some (.type "list") := by decide +kernel
theorem bv_range : bootBuiltins "range" = some (.type "range") := by decide +kernel
theorem bv_repr : bootBuiltins "repr" = some (.builtin "repr") := by decide +kernel
theorem bv_set : bootBuiltins "set" = some (.type "set") := by decide +kernel
theorem bv_sorted : bootBuiltins "sorted" = some (.builtin "sorted") := by decide +kernel
theorem bv_str : bootBuiltins "str" = some (.type "str") := by decide +kernel
theorem bv_tuple : bootBuiltins "tuple" = some (.type "tuple") := by decide +kernel
def c_JOINS : D := .tup [.str "and", .str "or", .str "gives"]
def c_LETTERS : D := .str "abcdefghijklmnopqrstuvwxyz"
def c_MOST_PARTS : D := .int (24)
def c_MOST_SIGNS : D := .int (8)
def c_NO : D := .str "no"
def c_OR : D := .str "or"
def c_WORDS : D := .tup [.str "and", .str "or", .str "gives", .str "yes", .str "no", .str "fun", .str "call", .str "pair", .str "first", .str "second", .str "left", .str "right", .str "case", .str "unit", .str "never", .str "hole"]
def c_YES : D := .str "yes"
structure Tx (K : PySem.W.Frag) (w : World) (mg : Str → Option Value) : Prop where
  z_abs : mg "abs" = none
  z_all : mg "all" = none
  z_any : mg "any" = none
  z_int : mg "int" = none
  z_isinstance : mg "isinstance" = none
  z_len : mg "len" = none
  z_list : mg "list" = none
  z_range : mg "range" = none
  z_repr : mg "repr" = none
  z_set : mg "set" = none
  z_sorted : mg "sorted" = none
  z_str : mg "str" = none
  z_tuple : mg "tuple" = none
  g_JOINS : Glo K mg "JOINS" c_JOINS
  g_LETTERS : Glo K mg "LETTERS" c_LETTERS
  g_MOST_PARTS : Glo K mg "MOST_PARTS" c_MOST_PARTS
  g_MOST_SIGNS : Glo K mg "MOST_SIGNS" c_MOST_SIGNS
  g_NO : Glo K mg "NO" c_NO
  g_OR : Glo K mg "OR" c_OR
  g_WORDS : Glo K mg "WORDS" c_WORDS
  g_YES : Glo K mg "YES" c_YES
structure XAd where
  mk ::
  (v_BadCode v_BadCommand v_BadHouse v_BadLibrary v_BadName v_BadNumber v_BadPaper v_BadSheet v_BadStatement v_BadTerm v_BadText v_BadValue v_Misfit v_Nothing v_PartError v_RunError v_TooMany : Addr)
  iv : Addr → Addr → Option Bool
  oA : Str → Addr → Prop
  iE : Addr → Addr → Prop
structure XFa (P : Program) (w : World) (K : PySem.W.Frag) (mg : Str → Option Value) (base : Heap) (U : XAd) : Prop where
  m_BadCode : mg "BadCode" = some (.ref U.v_BadCode)
  m_BadCommand : mg "BadCommand" = some (.ref U.v_BadCommand)
  m_BadHouse : mg "BadHouse" = some (.ref U.v_BadHouse)
  m_BadLibrary : mg "BadLibrary" = some (.ref U.v_BadLibrary)
  m_BadName : mg "BadName" = some (.ref U.v_BadName)
  m_BadNumber : mg "BadNumber" = some (.ref U.v_BadNumber)
  m_BadPaper : mg "BadPaper" = some (.ref U.v_BadPaper)
  m_BadSheet : mg "BadSheet" = some (.ref U.v_BadSheet)
  m_BadStatement : mg "BadStatement" = some (.ref U.v_BadStatement)
  m_BadTerm : mg "BadTerm" = some (.ref U.v_BadTerm)
  m_BadText : mg "BadText" = some (.ref U.v_BadText)
  m_BadValue : mg "BadValue" = some (.ref U.v_BadValue)
  m_Misfit : mg "Misfit" = some (.ref U.v_Misfit)
  m_Nothing : mg "Nothing" = some (.ref U.v_Nothing)
  m_PartError : mg "PartError" = some (.ref U.v_PartError)
  m_RunError : mg "RunError" = some (.ref U.v_RunError)
  m_TooMany : mg "TooMany" = some (.ref U.v_TooMany)
  hiv : ∀ (x c : Addr) (b : Bool), U.iv x c = some b → ExcC K c ∧ PySem.W.kitOne K (.ref c) (.ref x) = some b
  hoA : ∀ (n : Str) (c : Addr), U.oA n c → ExcC K c ∧ PySem.W.findIn K (.ref c) n = some none
  hiE : ∀ x c : Addr, U.iE x c → PySem.W.exmOne K (.ref c) (.ref x) = some true
  e_BadStatement : ExcK P w K mg base 1 "BadStatement" U.v_BadStatement U.v_PartError 1 (sp1 K U.v_PartError "part")
  n_BadStatement_part : PySem.W.findIn K (.ref U.v_BadStatement) "part" = some none
abbrev st_is_row : Stmt := top 6
theorem sc_is_row : FnScope ["value"] ["value"] (defScope st_is_row) := ⟨rfl, rfl, rfl, by decide +kernel, rfl, by decide +kernel, by decide +kernel⟩
def t_is_row : TDS :=
(dRet (dUn (r31Isi ["list", "tuple"]) (dVar 0)))
theorem d_is_row {P : Program} {w : World} {K : PySem.W.Frag} {mg : Str → Option Value} {base : Heap} {k : Nat} (T : Tx K w mg)
    {f : Addr} (cdv : Value) (A : Around) (outer : List Env) (s : Shared) (H : Hp) (E : XK) (c : C0) (hr : Room k (A.deeper (envOfC "is_row" (defScope st_is_row) s.heap.objs.size f cdv)))
    (tk : Takes (cxOf (L2.CX P w) P w K mg base ["value"] "is_row" (defScope st_is_row) f cdv A outer s H E) (WE0 E)) (ho : PassesOwn (model P w) (cxOf (L2.CX P w) P w K mg base ["value"] "is_row" (defScope st_is_row) f cdv A outer s H E).A (cxOf (L2.CX P w) P w K mg base ["value"] "is_row" (defScope st_is_row) f cdv A outer s H E).env (cxOf (L2.CX P w) P w K mg base ["value"] "is_row" (defScope st_is_row) f cdv A outer s H E).xe) : DSs (cxOf (L2.CX P w) P w K mg base ["value"] "is_row" (defScope st_is_row) f cdv A outer s H E) c (WE0 E) (defBody st_is_row) (t_is_row) := by
  have ndN : (cxOf (L2.CX P w) P w K mg base ["value"] "is_row" (defScope st_is_row) f cdv A outer s H E).N.Nodup := sc_is_row.nd
  exact (dss_one (ds_ret (de_isi2 "list" "tuple" rfl rfl rfl T.z_isinstance rfl T.z_list bv_list rfl T.z_tuple bv_tuple (dv 0))))
abbrev st_is_name : Stmt := top 7
theorem sc_is_name : FnScope ["value", "sign"] ["value"] (defScope st_is_name) := ⟨rfl, rfl, rfl, by decide +kernel, rfl, by decide +kernel, by decide +kernel⟩
def t_is_name : TDS :=
(dSeq (dIfS (dOr (dNot (dB (dUn (r31Isi ["str"]) (dVar 0))))
   (dOr (dNot (dB (dChain r3Le r3Le (dC (.int (1))) (dUn r31Len (dVar 0)) (dC c_MOST_SIGNS))))
   (dB (dBin r3In (dVar 0) (dC c_WORDS)))))
  (dRet (dC (.bl false)))
  dNext)
  (dRet (dUn r31All (dLc (diSeq (dVar 0)) (dgName 1) dYes (dBin r3In (dVar 1) (dC c_LETTERS)) [1]))))
theorem d_is_name {P : Program} {w : World} {K : PySem.W.Frag} {mg : Str → Option Value} {base : Heap} {k : Nat} (T : Tx K w mg)
    {f : Addr} (cdv : Value) (A : Around) (outer : List Env) (s : Shared) (H : Hp) (E : XK) (c : C0) (hr : Room k (A.deeper (envOfC "is_name" (defScope st_is_name) s.heap.objs.size f cdv)))
    (tk : Takes (cxOf (L2.CX P w) P w K mg base ["value", "sign"] "is_name" (defScope st_is_name) f cdv A outer s H E) (WE0 E)) (ho : PassesOwn (model P w) (cxOf (L2.CX P w) P w K mg base ["value", "sign"] "is_name" (defScope st_is_name) f cdv A outer s H E).A (cxOf (L2.CX P w) P w K mg base ["value", "sign"] "is_name" (defScope st_is_name) f cdv A outer s H E).env (cxOf (L2.CX P w) P w K mg base ["value", "sign"] "is_name" (defScope st_is_name) f cdv A outer s H E).xe) : DSs (cxOf (L2.CX P w) P w K mg base ["value", "sign"] "is_name" (defScope st_is_name) f cdv A outer s H E) c (WE0 E) (defBody st_is_name) (t_is_name) := by
  have ndN : (cxOf (L2.CX P w) P w K mg base ["value", "sign"] "is_name" (defScope st_is_name) f cdv A outer s H E).N.Nodup := sc_is_name.nd
  exact (dss_cons (ds_if (dt_bool (dw_or (dt_not (dt_val (de_isi1 "str" rfl rfl T.z_isinstance rfl T.z_str bv_str (dv 0))))
   (dw_or (dt_not (dt_chain op_le o3_bl0 op_le o3_bl0 de_int (de_callB call_len u3_len rfl T.z_len bv_len (dv 0)) (dgl T.g_MOST_SIGNS)))
   (dw_or1 (dt_cmp op_in o3_in (dv 0) (dgl T.g_WORDS))))))
  (dss_one (ds_ret de_bl))
  dss_nil)
  (dss_one (ds_ret (de_callB (cr_all rfl) u3_all rfl T.z_all bv_all (de_lc rfl ndN [("sign", 1)] rfl (di_seq (dv 0)) (fun _ _ _ _ _ => (dg_name (i := 1) ndN)) (fun _ _ _ _ _ => dts_nil) (fun _ _ _ _ _ => (de_cmp op_in o3_in (dv 1) (dgl T.g_LETTERS))))))))
abbrev st_fixed : Stmt := top 27
theorem sc_fixed : FnScope ["value", "done", "line", "one", "parts"] ["value"] (defScope st_fixed) := ⟨rfl, rfl, rfl, by decide +kernel, rfl, by decide +kernel, by decide +kernel⟩
abbrev st_statement_in : Stmt := top 36
theorem sc_statement_in : FnScope ["value", "line", "many", "one"] ["value"] (defScope st_statement_in) := ⟨rfl, rfl, rfl, by decide +kernel, rfl, by decide +kernel, by decide +kernel⟩
def w1_statement_in (sp_is_name : SpD) (sp_fixed : SpD) : TDT :=
(dB (dBin r3Ne (dVar 1) (dLst dNil)))
def b1_statement_in (sp_is_name : SpD) (sp_fixed : SpD) : TDS :=
(dSeq (dPar 3 2 (dPop 1) (dBin r3Plus (dVar 2) (dC (.int (1)))))
  (dSeq (dIfS (dB (dBin r3Gt (dVar 2) (dC c_MOST_PARTS)))
  (dRet (dC .non))
  dNext)
  (dIfS (dB (dUn (r31Isi ["str"]) (dVar 3)))
  (dIfS (dAnd (dB (dBin r3NotIn (dVar 3) (dTup (dCons (dC c_YES) (dCons (dC c_NO) dNil)))))
   (dNot (dB (dCall 1 sp_is_name [] (dCons (dVar 3) dNil)))))
  (dRet (dC .non))
  dNext)
  (dIfS (dAnd (dB (dUn (r31Isi ["list", "tuple"]) (dVar 3)))
   (dAnd (dB (dBin r3Eq (dUn r31Len (dVar 3)) (dC (.int (3)))))
   (dAnd (dB (dUn (r31Isi ["str"]) (dBin r3Ix (dVar 3) (dC (.int (0))))))
   (dB (dBin r3In (dBin r3Ix (dVar 3) (dC (.int (0)))) (dC c_JOINS))))))
  (dDrop (dExt 1 (dLst (dCons (dBin r3Ix (dVar 3) (dC (.int (2)))) (dCons (dBin r3Ix (dVar 3) (dC (.int (1)))) dNil)))))
  (dRet (dC .non))))))
def t_statement_in (sp_is_name : SpD) (sp_fixed : SpD) : TDS :=
(dSeq (dPar 1 2 (dLst (dCons (dVar 0) dNil)) (dC (.int (0))))
  (dSeq (dWhile (w1_statement_in sp_is_name sp_fixed) (b1_statement_in sp_is_name sp_fixed))
  (dRet (dCall 1 sp_fixed [] (dCons (dVar 0) dNil)))))
theorem d_statement_in {P : Program} {w : World} {K : PySem.W.Frag} {mg : Str → Option Value} {base : Heap} {k kis_name kfixed : Nat} {sp_is_name : SpD} {sp_fixed : SpD} (T : Tx K w mg)
    (C_is_name : Cal P w K mg base kis_name "is_name" 1 sp_is_name []) (l_is_name : kis_name ≤ k)
    (C_fixed : Cal P w K mg base kfixed "fixed" 1 sp_fixed []) (l_fixed : kfixed ≤ k)
    {f : Addr} (cdv : Value) (A : Around) (outer : List Env) (s : Shared) (H : Hp) (E : XK) (c : C0) (hr : Room k (A.deeper (envOfC "statement_in" (defScope st_statement_in) s.heap.objs.size f cdv)))
    (tk : Takes (cxOf (L2.CX P w) P w K mg base ["value", "line", "many", "one"] "statement_in" (defScope st_statement_in) f cdv A outer s H E) (WE0 E)) (ho : PassesOwn (model P w) (cxOf (L2.CX P w) P w K mg base ["value", "line", "many", "one"] "statement_in" (defScope st_statement_in) f cdv A outer s H E).A (cxOf (L2.CX P w) P w K mg base ["value", "line", "many", "one"] "statement_in" (defScope st_statement_in) f cdv A outer s H E).env (cxOf (L2.CX P w) P w K mg base ["value", "line", "many", "one"] "statement_in" (defScope st_statement_in) f cdv A outer s H E).xe) : DSs (cxOf (L2.CX P w) P w K mg base ["value", "line", "many", "one"] "statement_in" (defScope st_statement_in) f cdv A outer s H E) c (WE0 E) (defBody st_statement_in) (t_statement_in sp_is_name sp_fixed) := by
  have ndN : (cxOf (L2.CX P w) P w K mg base ["value", "line", "many", "one"] "statement_in" (defScope st_statement_in) f cdv A outer s H E).N.Nodup := sc_statement_in.nd
  exact (dss_cons (ds_par (i := 1) (j := 2) rfl ndN (de_lst (da_cons (dv 0) da_nil)) de_int)
  (dss_cons (ds_while ho (dt_cmp (op_ne3 (room200 hr)) o3_ne (dv 1) (de_lst da_nil))
  (dss_cons (ds_par (i := 3) (j := 2) rfl ndN (de_pop 1) (de_op op_plus o3_plus (dv 2) de_int))
  (dss_cons (ds_if (dt_cmp op_gt o3_bl0 (dv 2) (dgl T.g_MOST_PARTS))
  (dss_one (ds_ret de_non))
  dss_nil)
  (dss_one (ds_if (dt_val (de_isi1 "str" rfl rfl T.z_isinstance rfl T.z_str bv_str (dv 3)))
  (dss_one (ds_if (dt_bool (dw_and (dt_cmp op_notIn o3_notIn (dv 3) (de_tup (da_cons (dgl T.g_YES) (da_cons (dgl T.g_NO) da_nil))))
   (dw_and1 (dt_not (dt_val (de_c C_is_name hr (by omega) tk (da_cons (dv 3) da_nil)))))))
  (dss_one (ds_ret de_non))
  dss_nil))
  (dss_one (ds_if (dt_bool (dw_and (dt_val (de_isi2 "list" "tuple" rfl rfl rfl T.z_isinstance rfl T.z_list bv_list rfl T.z_tuple bv_tuple (dv 3)))
   (dw_and (dt_cmp (op_eq3 (room200 hr)) o3_eq (de_callB call_len u3_len rfl T.z_len bv_len (dv 3)) de_int)
   (dw_and (dt_val (de_isi1 "str" rfl rfl T.z_isinstance rfl T.z_str bv_str (de_ix ix_seq o3_ix (dv 3) de_int)))
   (dw_and1 (dt_cmp op_in o3_in (de_ix ix_seq o3_ix (dv 3) de_int) (dgl T.g_JOINS)))))))
  (dss_one (ds_expr (de_extend 1 (de_lst (da_cons (de_ix ix_seq o3_ix (dv 3) de_int) (da_cons (de_ix ix_seq o3_ix (dv 3) de_int) da_nil))))))
  (dss_one (ds_ret de_non)))))))))
  (dss_one (ds_ret (de_c C_fixed hr (by omega) tk (da_cons (dv 0) da_nil))))))
abbrev st_is_statement : Stmt := top 37
theorem sc_is_statement : FnScope ["value"] ["value"] (defScope st_is_statement) := ⟨rfl, rfl, rfl, by decide +kernel, rfl, by decide +kernel, by decide +kernel⟩
def t_is_statement (sp_statement_in : SpD) : TDS :=
(dRet (dBin r3IsNot (dCall 1 sp_statement_in [] (dCons (dVar 0) dNil)) (dC .non)))
theorem d_is_statement {P : Program} {w : World} {K : PySem.W.Frag} {mg : Str → Option Value} {base : Heap} {k kstatement_in : Nat} {sp_statement_in : SpD} (T : Tx K w mg)
    (C_statement_in : Cal P w K mg base kstatement_in "statement_in" 1 sp_statement_in []) (l_statement_in : kstatement_in ≤ k)
    {f : Addr} (cdv : Value) (A : Around) (outer : List Env) (s : Shared) (H : Hp) (E : XK) (c : C0) (hr : Room k (A.deeper (envOfC "is_statement" (defScope st_is_statement) s.heap.objs.size f cdv)))
    (tk : Takes (cxOf (L2.CX P w) P w K mg base ["value"] "is_statement" (defScope st_is_statement) f cdv A outer s H E) (WE0 E)) (ho : PassesOwn (model P w) (cxOf (L2.CX P w) P w K mg base ["value"] "is_statement" (defScope st_is_statement) f cdv A outer s H E).A (cxOf (L2.CX P w) P w K mg base ["value"] "is_statement" (defScope st_is_statement) f cdv A outer s H E).env (cxOf (L2.CX P w) P w K mg base ["value"] "is_statement" (defScope st_is_statement) f cdv A outer s H E).xe) : DSs (cxOf (L2.CX P w) P w K mg base ["value"] "is_statement" (defScope st_is_statement) f cdv A outer s H E) c (WE0 E) (defBody st_is_statement) (t_is_statement sp_statement_in) := by
  have ndN : (cxOf (L2.CX P w) P w K mg base ["value"] "is_statement" (defScope st_is_statement) f cdv A outer s H E).N.Nodup := sc_is_statement.nd
  exact (dss_one (ds_ret (de_cmp op_isNot o3_isNot (de_c C_statement_in hr (by omega) tk (da_cons (dv 0) da_nil)) de_non)))
abbrev st_need_statement : Stmt := top 38
theorem sc_need_statement : FnScope ["value", "part", "found"] ["value", "part"] (defScope st_need_statement) := ⟨rfl, rfl, rfl, by decide +kernel, rfl, by decide +kernel, by decide +kernel⟩
def t_need_statement (U : XAd) (sp_statement_in : SpD) : TDS :=
(dSeq (dSet 2 (dCall 1 sp_statement_in [] (dCons (dVar 0) dNil)))
  (dSeq (dIfS (dB (dBin r3Is (dVar 2) (dC .non)))
  (dRaise1 U.v_BadStatement "part" (dCons (dVar 1) dNil))
  dNext)
  (dRet (dVar 2))))
theorem d_need_statement {P : Program} {w : World} {K : PySem.W.Frag} {mg : Str → Option Value} {base : Heap} {k kstatement_in : Nat} {U : XAd} {sp_statement_in : SpD} (T : Tx K w mg) (F : XFa P w K mg base U)
    (C_statement_in : Cal P w K mg base kstatement_in "statement_in" 1 sp_statement_in []) (l_statement_in : kstatement_in ≤ k)
    {f : Addr} (cdv : Value) (A : Around) (outer : List Env) (s : Shared) (H : Hp) (E : XK) (c : C0) (hr : Room k (A.deeper (envOfC "need_statement" (defScope st_need_statement) s.heap.objs.size f cdv)))
    (tk : Takes (cxOf (L2.CX P w) P w K mg base ["value", "part", "found"] "need_statement" (defScope st_need_statement) f cdv A outer s H E) (WE0 E)) (ho : PassesOwn (model P w) (cxOf (L2.CX P w) P w K mg base ["value", "part", "found"] "need_statement" (defScope st_need_statement) f cdv A outer s H E).A (cxOf (L2.CX P w) P w K mg base ["value", "part", "found"] "need_statement" (defScope st_need_statement) f cdv A outer s H E).env (cxOf (L2.CX P w) P w K mg base ["value", "part", "found"] "need_statement" (defScope st_need_statement) f cdv A outer s H E).xe) (k2 : 2 ≤ k) : DSs (cxOf (L2.CX P w) P w K mg base ["value", "part", "found"] "need_statement" (defScope st_need_statement) f cdv A outer s H E) c (WE0 E) (defBody st_need_statement) (t_need_statement U sp_statement_in) := by
  have ndN : (cxOf (L2.CX P w) P w K mg base ["value", "part", "found"] "need_statement" (defScope st_need_statement) f cdv A outer s H E).N.Nodup := sc_need_statement.nd
  exact (dss_cons (ds_set (i := 2) ndN (de_c C_statement_in hr (by omega) tk (da_cons (dv 0) da_nil)))
  (dss_cons (ds_if (dt_cmp op_is o3_is (dv 2) de_non)
  (dss_one (ds_raise1 F.e_BadStatement F.n_BadStatement_part rfl hr (by omega) tk (da_cons (dv 1) da_nil)))
  dss_nil)
  (dss_one (ds_ret (dv 2)))))
abbrev st_parts_in : Stmt := top 39
theorem sc_parts_in : FnScope ["statement", "found", "line", "one"] ["statement"] (defScope st_parts_in) := ⟨rfl, rfl, rfl, by decide +kernel, rfl, by decide +kernel, by decide +kernel⟩
def w1_parts_in : TDT :=
(dB (dBin r3Ne (dVar 2) (dLst dNil)))
def b1_parts_in : TDS :=
(dSeq (dSet 3 (dPop 2))
  (dSeq (dDrop (dApp 1 (dVar 3)))
  (dIfS (dNot (dB (dUn (r31Isi ["str"]) (dVar 3))))
  (dDrop (dExt 2 (dLst (dCons (dBin r3Ix (dVar 3) (dC (.int (2)))) (dCons (dBin r3Ix (dVar 3) (dC (.int (1)))) dNil)))))
  dNext)))
def t_parts_in : TDS :=
(dSeq (dPar 1 2 (dLst dNil) (dLst (dCons (dVar 0) dNil)))
  (dSeq (dWhile (w1_parts_in) (b1_parts_in))
  (dRet (dUn r31Tuple (dVar 1)))))
theorem d_parts_in {P : Program} {w : World} {K : PySem.W.Frag} {mg : Str → Option Value} {base : Heap} {k : Nat} (T : Tx K w mg)
    {f : Addr} (cdv : Value) (A : Around) (outer : List Env) (s : Shared) (H : Hp) (E : XK) (c : C0) (hr : Room k (A.deeper (envOfC "parts_in" (defScope st_parts_in) s.heap.objs.size f cdv)))
    (tk : Takes (cxOf (L2.CX P w) P w K mg base ["statement", "found", "line", "one"] "parts_in" (defScope st_parts_in) f cdv A outer s H E) (WE0 E)) (ho : PassesOwn (model P w) (cxOf (L2.CX P w) P w K mg base ["statement", "found", "line", "one"] "parts_in" (defScope st_parts_in) f cdv A outer s H E).A (cxOf (L2.CX P w) P w K mg base ["statement", "found", "line", "one"] "parts_in" (defScope st_parts_in) f cdv A outer s H E).env (cxOf (L2.CX P w) P w K mg base ["statement", "found", "line", "one"] "parts_in" (defScope st_parts_in) f cdv A outer s H E).xe) : DSs (cxOf (L2.CX P w) P w K mg base ["statement", "found", "line", "one"] "parts_in" (defScope st_parts_in) f cdv A outer s H E) c (WE0 E) (defBody st_parts_in) (t_parts_in) := by
  have ndN : (cxOf (L2.CX P w) P w K mg base ["statement", "found", "line", "one"] "parts_in" (defScope st_parts_in) f cdv A outer s H E).N.Nodup := sc_parts_in.nd
  exact (dss_cons (ds_par (i := 1) (j := 2) rfl ndN (de_lst da_nil) (de_lst (da_cons (dv 0) da_nil)))
  (dss_cons (ds_while ho (dt_cmp (op_ne3 (room200 hr)) o3_ne (dv 2) (de_lst da_nil))
  (dss_cons (ds_set (i := 3) ndN (de_pop 2))
  (dss_cons (ds_expr (de_append 1 (dv 3)))
  (dss_one (ds_if (dt_not (dt_val (de_isi1 "str" rfl rfl T.z_isinstance rfl T.z_str bv_str (dv 3))))
  (dss_one (ds_expr (de_extend 2 (de_lst (da_cons (de_ix ix_seq o3_ix (dv 3) de_int) (da_cons (de_ix ix_seq o3_ix (dv 3) de_int) da_nil))))))
  dss_nil)))))
  (dss_one (ds_ret (de_callT call_tuple_of u3_tuple rfl T.z_tuple bv_tuple (dv 1))))))
abbrev st_kinds_in : Stmt := top 40
theorem sc_kinds_in : FnScope ["statements", "some", "statement", "part"] ["statements"] (defScope st_kinds_in) := ⟨rfl, rfl, rfl, by decide +kernel, rfl, by decide +kernel, by decide +kernel⟩
def t_kinds_in (sp_parts_in : SpD) : TDS :=
(dSeq (dSet 1 (dLc2 (diSeq (dVar 0)) (dgName 2) dYes (diSeq (dCall 1 sp_parts_in [] (dCons (dVar 2) dNil))) (dgName 3) dYes (dVar 3) [2, 3] [3]))
  (dRet (dUn r31Tuple (dUn r31SortD (dDcT (diSeq (dVar 1)) (dgName 3) (dAnd (dB (dUn (r31Isi ["str"]) (dVar 3)))
   (dB (dBin r3NotIn (dVar 3) (dTup (dCons (dC c_YES) (dCons (dC c_NO) dNil)))))) (dVar 3) [3])))))
theorem d_kinds_in {P : Program} {w : World} {K : PySem.W.Frag} {mg : Str → Option Value} {base : Heap} {k kparts_in : Nat} {sp_parts_in : SpD} (T : Tx K w mg)
    (C_parts_in : Cal P w K mg base kparts_in "parts_in" 1 sp_parts_in []) (l_parts_in : kparts_in ≤ k)
    {f : Addr} (cdv : Value) (A : Around) (outer : List Env) (s : Shared) (H : Hp) (E : XK) (c : C0) (hr : Room k (A.deeper (envOfC "kinds_in" (defScope st_kinds_in) s.heap.objs.size f cdv)))
    (tk : Takes (cxOf (L2.CX P w) P w K mg base ["statements", "some", "statement", "part"] "kinds_in" (defScope st_kinds_in) f cdv A outer s H E) (WE0 E)) (ho : PassesOwn (model P w) (cxOf (L2.CX P w) P w K mg base ["statements", "some", "statement", "part"] "kinds_in" (defScope st_kinds_in) f cdv A outer s H E).A (cxOf (L2.CX P w) P w K mg base ["statements", "some", "statement", "part"] "kinds_in" (defScope st_kinds_in) f cdv A outer s H E).env (cxOf (L2.CX P w) P w K mg base ["statements", "some", "statement", "part"] "kinds_in" (defScope st_kinds_in) f cdv A outer s H E).xe) : DSs (cxOf (L2.CX P w) P w K mg base ["statements", "some", "statement", "part"] "kinds_in" (defScope st_kinds_in) f cdv A outer s H E) c (WE0 E) (defBody st_kinds_in) (t_kinds_in sp_parts_in) := by
  have ndN : (cxOf (L2.CX P w) P w K mg base ["statements", "some", "statement", "part"] "kinds_in" (defScope st_kinds_in) f cdv A outer s H E).N.Nodup := sc_kinds_in.nd
  exact (dss_cons (ds_setLc2 rfl ndN [("statement", 2), ("part", 3)] [3] rfl (di_seq (dv 0)) (fun _ _ _ _ _ => (dg_name (i := 2) ndN)) (fun _ _ _ _ _ => dts_nil) (fun _ _ _ _ _ => (di_seq (de_c C_parts_in hr (by omega) takes0 (da_cons (dv 2) da_nil)))) (fun _ _ _ _ _ => (dg_name (i := 3) ndN)) (fun _ _ _ _ _ => dts_nil) (fun _ _ _ _ _ => (dv 3)))
  (dss_one (ds_ret (de_callT call_tuple_of u3_tuple rfl T.z_tuple bv_tuple (de_callB (call_sortedD rfl) u3_sortD rfl T.z_sorted bv_sorted (de_dcT rfl ndN [("part", 3)] rfl (di_seq (dv 1)) (fun _ _ _ _ _ => (dg_name (i := 3) ndN)) (fun _ _ _ _ _ => (dts_one (dt_bool (dw_and (dt_val (de_isi1 "str" rfl rfl T.z_isinstance rfl T.z_str bv_str (dv 3)))
   (dw_and1 (dt_cmp op_notIn o3_notIn (dv 3) (de_tup (da_cons (dgl T.g_YES) (da_cons (dgl T.g_NO) da_nil))))))))) (fun _ _ _ _ _ => (dv 3))))))))
abbrev st_is_plain : Stmt := top 41
theorem sc_is_plain : FnScope ["statement", "part"] ["statement"] (defScope st_is_plain) := ⟨rfl, rfl, rfl, by decide +kernel, rfl, by decide +kernel, by decide +kernel⟩
def t_is_plain (sp_parts_in : SpD) : TDS :=
(dRet (dNotV (dB (dUn r31Any (dLc (diSeq (dCall 1 sp_parts_in [] (dCons (dVar 0) dNil))) (dgName 1) dYes (dOrV (dBin r3Eq (dVar 1) (dC c_NO))
   (dAndV (dNotV (dB (dUn (r31Isi ["str"]) (dVar 1))))
   (dBin r3Eq (dBin r3Ix (dVar 1) (dC (.int (0)))) (dC c_OR)))) [1])))))
theorem d_is_plain {P : Program} {w : World} {K : PySem.W.Frag} {mg : Str → Option Value} {base : Heap} {k kparts_in : Nat} {sp_parts_in : SpD} (T : Tx K w mg)
    (C_parts_in : Cal P w K mg base kparts_in "parts_in" 1 sp_parts_in []) (l_parts_in : kparts_in ≤ k)
    {f : Addr} (cdv : Value) (A : Around) (outer : List Env) (s : Shared) (H : Hp) (E : XK) (c : C0) (hr : Room k (A.deeper (envOfC "is_plain" (defScope st_is_plain) s.heap.objs.size f cdv)))
    (tk : Takes (cxOf (L2.CX P w) P w K mg base ["statement", "part"] "is_plain" (defScope st_is_plain) f cdv A outer s H E) (WE0 E)) (ho : PassesOwn (model P w) (cxOf (L2.CX P w) P w K mg base ["statement", "part"] "is_plain" (defScope st_is_plain) f cdv A outer s H E).A (cxOf (L2.CX P w) P w K mg base ["statement", "part"] "is_plain" (defScope st_is_plain) f cdv A outer s H E).env (cxOf (L2.CX P w) P w K mg base ["statement", "part"] "is_plain" (defScope st_is_plain) f cdv A outer s H E).xe) : DSs (cxOf (L2.CX P w) P w K mg base ["statement", "part"] "is_plain" (defScope st_is_plain) f cdv A outer s H E) c (WE0 E) (defBody st_is_plain) (t_is_plain sp_parts_in) := by
  have ndN : (cxOf (L2.CX P w) P w K mg base ["statement", "part"] "is_plain" (defScope st_is_plain) f cdv A outer s H E).N.Nodup := sc_is_plain.nd
  exact (dss_one (ds_ret (de_notB (de_callB (cr_any rfl) u3_any rfl T.z_any bv_any (de_lc rfl ndN [("part", 1)] rfl (di_seq (de_c C_parts_in hr (by omega) tk (da_cons (dv 0) da_nil))) (fun _ _ _ _ _ => (dg_name (i := 1) ndN)) (fun _ _ _ _ _ => dts_nil) (fun _ _ _ _ _ => (de_or (de_cmp (op_eq3 (room200 hr)) o3_eq (dv 1) (dgl T.g_NO))
   (de_one (de_and (de_notB (de_isi1 "str" rfl rfl T.z_isinstance rfl T.z_str bv_str (dv 1)))
   (de_one (de_cmp (op_eq3 (room200 hr)) o3_eq (de_ix ix_seq o3_ix (dv 1) de_int) (dgl T.g_OR))))))))))))
abbrev st_parts_of : Stmt := top 42
theorem sc_parts_of : FnScope ["statement"] ["statement"] (defScope st_parts_of) := ⟨rfl, rfl, rfl, by decide +kernel, rfl, by decide +kernel, by decide +kernel⟩
def t_parts_of (sp_parts_in : SpD) (sp_need_statement : SpD) : TDS :=
(dRet (dCall 1 sp_parts_in [] (dCons (dCall 2 sp_need_statement [.str "statement"] (dCons (dVar 0) dNil)) dNil)))
theorem d_parts_of {P : Program} {w : World} {K : PySem.W.Frag} {mg : Str → Option Value} {base : Heap} {k kparts_in kneed_statement : Nat} {sp_parts_in : SpD} {sp_need_statement : SpD} (T : Tx K w mg)
    (C_parts_in : Cal P w K mg base kparts_in "parts_in" 1 sp_parts_in []) (l_parts_in : kparts_in ≤ k)
    (C_need_statement : Cal P w K mg base kneed_statement "need_statement" 2 sp_need_statement [.str "statement"]) (l_need_statement : kneed_statement ≤ k)
    {f : Addr} (cdv : Value) (A : Around) (outer : List Env) (s : Shared) (H : Hp) (E : XK) (c : C0) (hr : Room k (A.deeper (envOfC "parts_of" (defScope st_parts_of) s.heap.objs.size f cdv)))
    (tk : Takes (cxOf (L2.CX P w) P w K mg base ["statement"] "parts_of" (defScope st_parts_of) f cdv A outer s H E) (WE0 E)) (ho : PassesOwn (model P w) (cxOf (L2.CX P w) P w K mg base ["statement"] "parts_of" (defScope st_parts_of) f cdv A outer s H E).A (cxOf (L2.CX P w) P w K mg base ["statement"] "parts_of" (defScope st_parts_of) f cdv A outer s H E).env (cxOf (L2.CX P w) P w K mg base ["statement"] "parts_of" (defScope st_parts_of) f cdv A outer s H E).xe) : DSs (cxOf (L2.CX P w) P w K mg base ["statement"] "parts_of" (defScope st_parts_of) f cdv A outer s H E) c (WE0 E) (defBody st_parts_of) (t_parts_of sp_parts_in sp_need_statement) := by
  have ndN : (cxOf (L2.CX P w) P w K mg base ["statement"] "parts_of" (defScope st_parts_of) f cdv A outer s H E).N.Nodup := sc_parts_of.nd
  exact (dss_one (ds_ret (de_c C_parts_in hr (by omega) tk (da_cons (de_c C_need_statement hr (by omega) tk (da_cons (dv 0) da_nil)) da_nil))))
abbrev st_size_of : Stmt := top 43
theorem sc_size_of : FnScope ["statement"] ["statement"] (defScope st_size_of) := ⟨rfl, rfl, rfl, by decide +kernel, rfl, by decide +kernel, by decide +kernel⟩
def t_size_of (sp_parts_in : SpD) (sp_need_statement : SpD) : TDS :=
(dRet (dUn r31Len (dCall 1 sp_parts_in [] (dCons (dCall 2 sp_need_statement [.str "statement"] (dCons (dVar 0) dNil)) dNil))))
theorem d_size_of {P : Program} {w : World} {K : PySem.W.Frag} {mg : Str → Option Value} {base : Heap} {k kparts_in kneed_statement : Nat} {sp_parts_in : SpD} {sp_need_statement : SpD} (T : Tx K w mg)
    (C_parts_in : Cal P w K mg base kparts_in "parts_in" 1 sp_parts_in []) (l_parts_in : kparts_in ≤ k)
    (C_need_statement : Cal P w K mg base kneed_statement "need_statement" 2 sp_need_statement [.str "statement"]) (l_need_statement : kneed_statement ≤ k)
    {f : Addr} (cdv : Value) (A : Around) (outer : List Env) (s : Shared) (H : Hp) (E : XK) (c : C0) (hr : Room k (A.deeper (envOfC "size_of" (defScope st_size_of) s.heap.objs.size f cdv)))
    (tk : Takes (cxOf (L2.CX P w) P w K mg base ["statement"] "size_of" (defScope st_size_of) f cdv A outer s H E) (WE0 E)) (ho : PassesOwn (model P w) (cxOf (L2.CX P w) P w K mg base ["statement"] "size_of" (defScope st_size_of) f cdv A outer s H E).A (cxOf (L2.CX P w) P w K mg base ["statement"] "size_of" (defScope st_size_of) f cdv A outer s H E).env (cxOf (L2.CX P w) P w K mg base ["statement"] "size_of" (defScope st_size_of) f cdv A outer s H E).xe) : DSs (cxOf (L2.CX P w) P w K mg base ["statement"] "size_of" (defScope st_size_of) f cdv A outer s H E) c (WE0 E) (defBody st_size_of) (t_size_of sp_parts_in sp_need_statement) := by
  have ndN : (cxOf (L2.CX P w) P w K mg base ["statement"] "size_of" (defScope st_size_of) f cdv A outer s H E).N.Nodup := sc_size_of.nd
  exact (dss_one (ds_ret (de_callB call_len u3_len rfl T.z_len bv_len (de_c C_parts_in hr (by omega) tk (da_cons (de_c C_need_statement hr (by omega) tk (da_cons (dv 0) da_nil)) da_nil)))))
abbrev st_kinds_of : Stmt := top 44
theorem sc_kinds_of : FnScope ["statement"] ["statement"] (defScope st_kinds_of) := ⟨rfl, rfl, rfl, by decide +kernel, rfl, by decide +kernel, by decide +kernel⟩
def t_kinds_of (sp_kinds_in : SpD) (sp_need_statement : SpD) : TDS :=
(dRet (dCall 1 sp_kinds_in [] (dCons (dLst (dCons (dCall 2 sp_need_statement [.str "statement"] (dCons (dVar 0) dNil)) dNil)) dNil)))
theorem d_kinds_of {P : Program} {w : World} {K : PySem.W.Frag} {mg : Str → Option Value} {base : Heap} {k kkinds_in kneed_statement : Nat} {sp_kinds_in : SpD} {sp_need_statement : SpD} (T : Tx K w mg)
    (C_kinds_in : Cal P w K mg base kkinds_in "kinds_in" 1 sp_kinds_in []) (l_kinds_in : kkinds_in ≤ k)
    (C_need_statement : Cal P w K mg base kneed_statement "need_statement" 2 sp_need_statement [.str "statement"]) (l_need_statement : kneed_statement ≤ k)
    {f : Addr} (cdv : Value) (A : Around) (outer : List Env) (s : Shared) (H : Hp) (E : XK) (c : C0) (hr : Room k (A.deeper (envOfC "kinds_of" (defScope st_kinds_of) s.heap.objs.size f cdv)))
    (tk : Takes (cxOf (L2.CX P w) P w K mg base ["statement"] "kinds_of" (defScope st_kinds_of) f cdv A outer s H E) (WE0 E)) (ho : PassesOwn (model P w) (cxOf (L2.CX P w) P w K mg base ["statement"] "kinds_of" (defScope st_kinds_of) f cdv A outer s H E).A (cxOf (L2.CX P w) P w K mg base ["statement"] "kinds_of" (defScope st_kinds_of) f cdv A outer s H E).env (cxOf (L2.CX P w) P w K mg base ["statement"] "kinds_of" (defScope st_kinds_of) f cdv A outer s H E).xe) : DSs (cxOf (L2.CX P w) P w K mg base ["statement"] "kinds_of" (defScope st_kinds_of) f cdv A outer s H E) c (WE0 E) (defBody st_kinds_of) (t_kinds_of sp_kinds_in sp_need_statement) := by
  have ndN : (cxOf (L2.CX P w) P w K mg base ["statement"] "kinds_of" (defScope st_kinds_of) f cdv A outer s H E).N.Nodup := sc_kinds_of.nd
  exact (dss_one (ds_ret (de_c C_kinds_in hr (by omega) tk (da_cons (de_lst (da_cons (de_c C_need_statement hr (by omega) tk (da_cons (dv 0) da_nil)) da_nil)) da_nil))))
abbrev st_is_straight : Stmt := top 45
theorem sc_is_straight : FnScope ["statement"] ["statement"] (defScope st_is_straight) := ⟨rfl, rfl, rfl, by decide +kernel, rfl, by decide +kernel, by decide +kernel⟩
def t_is_straight (sp_is_plain : SpD) (sp_need_statement : SpD) : TDS :=
(dRet (dCall 1 sp_is_plain [] (dCons (dCall 2 sp_need_statement [.str "statement"] (dCons (dVar 0) dNil)) dNil)))
theorem d_is_straight {P : Program} {w : World} {K : PySem.W.Frag} {mg : Str → Option Value} {base : Heap} {k kis_plain kneed_statement : Nat} {sp_is_plain : SpD} {sp_need_statement : SpD} (T : Tx K w mg)
    (C_is_plain : Cal P w K mg base kis_plain "is_plain" 1 sp_is_plain []) (l_is_plain : kis_plain ≤ k)
    (C_need_statement : Cal P w K mg base kneed_statement "need_statement" 2 sp_need_statement [.str "statement"]) (l_need_statement : kneed_statement ≤ k)
    {f : Addr} (cdv : Value) (A : Around) (outer : List Env) (s : Shared) (H : Hp) (E : XK) (c : C0) (hr : Room k (A.deeper (envOfC "is_straight" (defScope st_is_straight) s.heap.objs.size f cdv)))
    (tk : Takes (cxOf (L2.CX P w) P w K mg base ["statement"] "is_straight" (defScope st_is_straight) f cdv A outer s H E) (WE0 E)) (ho : PassesOwn (model P w) (cxOf (L2.CX P w) P w K mg base ["statement"] "is_straight" (defScope st_is_straight) f cdv A outer s H E).A (cxOf (L2.CX P w) P w K mg base ["statement"] "is_straight" (defScope st_is_straight) f cdv A outer s H E).env (cxOf (L2.CX P w) P w K mg base ["statement"] "is_straight" (defScope st_is_straight) f cdv A outer s H E).xe) : DSs (cxOf (L2.CX P w) P w K mg base ["statement"] "is_straight" (defScope st_is_straight) f cdv A outer s H E) c (WE0 E) (defBody st_is_straight) (t_is_straight sp_is_plain sp_need_statement) := by
  have ndN : (cxOf (L2.CX P w) P w K mg base ["statement"] "is_straight" (defScope st_is_straight) f cdv A outer s H E).N.Nodup := sc_is_straight.nd
  exact (dss_one (ds_ret (de_c C_is_plain hr (by omega) tk (da_cons (de_c C_need_statement hr (by omega) tk (da_cons (dv 0) da_nil)) da_nil))))
abbrev st__law_well : Stmt := top 47
theorem sc__law_well : FnScope ["script", "cell"] ["script"] (defScope st__law_well) := ⟨rfl, rfl, rfl, by decide +kernel, rfl, by decide +kernel, by decide +kernel⟩
def t__law_well : TDE := (dLst (dCons (dLc (diSeq (dSlS (dVar 0) dNoPart (dPart (dC (.int (60)))))) (dgName 1) dYes (dUn r31Int (dVar 1)) [1]) (dCons (dC (.int (0))) (dCons (dC (.int (0))) dNil))))
theorem d__law_well {P : Program} {w : World} {K : PySem.W.Frag} {mg : Str → Option Value} {base : Heap} {k : Nat} (T : Tx K w mg)
    {f : Addr} (cdv : Value) (A : Around) (outer : List Env) (s : Shared) (H : Hp) (E : XK) (c : C0) (hr : Room k (A.deeper (envOfC "_law_well" (defScope st__law_well) s.heap.objs.size f cdv)))
    (tk : Takes (cxOf (L2.CX P w) P w K mg base ["script", "cell"] "_law_well" (defScope st__law_well) f cdv A outer s H E) (WE0 E)) (ho : PassesOwn (model P w) (cxOf (L2.CX P w) P w K mg base ["script", "cell"] "_law_well" (defScope st__law_well) f cdv A outer s H E).A (cxOf (L2.CX P w) P w K mg base ["script", "cell"] "_law_well" (defScope st__law_well) f cdv A outer s H E).env (cxOf (L2.CX P w) P w K mg base ["script", "cell"] "_law_well" (defScope st__law_well) f cdv A outer s H E).xe) : ∃ ex pos, defBody st__law_well = [.Return (some ex) pos] ∧ DE (cxOf (L2.CX P w) P w K mg base ["script", "cell"] "_law_well" (defScope st__law_well) f cdv A outer s H E) c (WE0 E) ex t__law_well := by
  have ndN : (cxOf (L2.CX P w) P w K mg base ["script", "cell"] "_law_well" (defScope st__law_well) f cdv A outer s H E).N.Nodup := sc__law_well.nd
  exact ⟨_, _, rfl, (de_lst (da_cons (de_lc rfl ndN [("cell", 1)] rfl (di_seq (de_sliceS (dv 0) do_none (do_some de_int))) (fun _ _ _ _ _ => (dg_name (i := 1) ndN)) (fun _ _ _ _ _ => dts_nil) (fun _ _ _ _ _ => (de_callT call_int1 u3_int rfl T.z_int bv_int (dv 1)))) (da_cons de_int (da_cons de_int da_nil))))⟩
abbrev st__law_draw : Stmt := top 48
theorem sc__law_draw : FnScope ["well", "many", "rest", "turn", "cell", "blend"] ["well", "many"] (defScope st__law_draw) := ⟨rfl, rfl, rfl, by decide +kernel, rfl, by decide +kernel, by decide +kernel⟩
def u__law_draw : TDS :=
(dSeq (dIfS (dAnd (dB (dBin r3Lt (dVar 3) (dUn r31Len (dWix 0 0))))
   (dB (dBin r3Ge (dUn r31Abs (dVar 4)) (dBin r3PowG (dC (.int (10))) (dC (.int (18)))))))
  (dSeq (dSet 2 (dBin r3Plus (dBin r3Star (dC (.int (2))) (dBin r3Sub (dUn r31Abs (dVar 4)) (dBin r3PowG (dC (.int (10))) (dC (.int (18)))))) (dUn r31Int (dBin r3Lt (dVar 4) (dC (.int (0)))))))
  (dSeq (dWset 0 2 (dBin r3Div (dVar 2) (dVar 1)))
  (dRet (dBin r3Mod (dUn r31Int (dVar 2)) (dVar 1)))))
  dNext)
  (dSeq (dSet 5 (dBin r3Mod (dUn r31Int (dBin r3PowG (dBin r3Plus (dBin r3Plus (dBin r3Mod (dUn r31Int (dVar 4)) (dC (.int (2147483549)))) (dBin r3Star (dC (.int (47237))) (dVar 3))) (dC (.int (9037)))) (dC (.int (5))))) (dC (.int (2147483587)))))
  (dSeq (dSet 5 (dBin r3Mod (dUn r31Int (dBin r3PowG (dBin r3Plus (dBin r3Plus (dBin r3Star (dVar 5) (dBin r3Plus (dBin r3Star (dC (.int (2))) (dVar 3)) (dC (.int (6131))))) (dBin r3Star (dBin r3Star (dC (.int (60159))) (dVar 3)) (dVar 3))) (dC (.int (47237)))) (dC (.int (3))))) (dC (.int (2147483629)))))
  (dRet (dBin r3Mod (dUn r31Int (dBin r3Div (dVar 5) (dC (.int (64))))) (dVar 1))))))
def t__law_draw : TDS :=
(dSeq (dIfS (dB (dBin r3Lt (dVar 1) (dC (.int (2)))))
  (dRet (dC (.int (0))))
  dNext)
  (dSeq (dIfS (dB (dBin r3Gt (dWix 0 2) (dC (.int (0)))))
  (dSeq (dSet 2 (dUn r31Int (dWix 0 2)))
  (dSeq (dWset 0 2 (dBin r3Div (dVar 2) (dVar 1)))
  (dRet (dBin r3Mod (dUn r31Int (dVar 2)) (dVar 1)))))
  dNext)
  (dSeq (dSet 3 (dWix 0 1))
  (dSeq (dWset 0 1 (dBin r3Plus (dVar 3) (dC (.int (1)))))
  (dSeq (dSet 4 (dBin r3Plus (dBin r3Star (dC (.int (60159))) (dVar 3)) (dC (.int (9037)))))
  (dSeq (dIfS (dB (dBin r3Ne (dWix 0 0) (dLst dNil)))
  (dSet 4 (dBin r3Ix (dWix 0 0) (dBin r3Mod (dUn r31Int (dVar 3)) (dUn r31Len (dWix 0 0)))))
  dNext)
  u__law_draw))))))
theorem d__law_draw {P : Program} {w : World} {K : PySem.W.Frag} {mg : Str → Option Value} {base : Heap} {k : Nat} (T : Tx K w mg)
    {f : Addr} (cdv : Value) (A : Around) (outer : List Env) (s : Shared) (H : Hp) (E : XK) (c : C0) (hr : Room k (A.deeper (envOfC "_law_draw" (defScope st__law_draw) s.heap.objs.size f cdv)))
    (tk : Takes (cxOf (L2.CX P w) P w K mg base ["well", "many", "rest", "turn", "cell", "blend"] "_law_draw" (defScope st__law_draw) f cdv A outer s H E) (WE0 E)) (ho : PassesOwn (model P w) (cxOf (L2.CX P w) P w K mg base ["well", "many", "rest", "turn", "cell", "blend"] "_law_draw" (defScope st__law_draw) f cdv A outer s H E).A (cxOf (L2.CX P w) P w K mg base ["well", "many", "rest", "turn", "cell", "blend"] "_law_draw" (defScope st__law_draw) f cdv A outer s H E).env (cxOf (L2.CX P w) P w K mg base ["well", "many", "rest", "turn", "cell", "blend"] "_law_draw" (defScope st__law_draw) f cdv A outer s H E).xe) : DSs (cxOf (L2.CX P w) P w K mg base ["well", "many", "rest", "turn", "cell", "blend"] "_law_draw" (defScope st__law_draw) f cdv A outer s H E) c (WE0 E) (defBody st__law_draw) (t__law_draw) := by
  have ndN : (cxOf (L2.CX P w) P w K mg base ["well", "many", "rest", "turn", "cell", "blend"] "_law_draw" (defScope st__law_draw) f cdv A outer s H E).N.Nodup := sc__law_draw.nd
  exact (dss_cons (ds_if (dt_cmp op_lt o3_bl0 (dv 1) de_int)
  (dss_one (ds_ret de_int))
  dss_nil)
  (dss_cons (ds_if (dt_cmp op_gt o3_bl0 (de_wix 0) de_int)
  (dss_cons (ds_set (i := 2) ndN (de_callT call_int1 u3_int rfl T.z_int bv_int (de_wix 0)))
  (dss_cons (ds_wset 0 (de_op op_fdiv o3_int (dv 2) (dv 1)))
  (dss_one (ds_ret (de_op op_mod o3_int (de_callT call_int1 u3_int rfl T.z_int bv_int (dv 2)) (dv 1))))))
  dss_nil)
  (dss_cons (ds_set (i := 3) ndN (de_wix 0))
  (dss_cons (ds_wset 0 (de_op op_plus o3_plus (dv 3) de_int))
  (dss_cons (ds_set (i := 4) ndN (de_op op_plus o3_plus (de_op op_star o3_star de_int (dv 3)) de_int))
  (dss_cons (ds_if (dt_cmp (op_ne3 (room200 hr)) o3_ne (de_wix 0) (de_lst da_nil))
  (dss_one (ds_set (i := 4) ndN (de_ix ix_seq o3_ix (de_wix 0) (de_op op_mod o3_int (de_callT call_int1 u3_int rfl T.z_int bv_int (dv 3)) (de_callB call_len u3_len rfl T.z_len bv_len (de_wix 0))))))
  dss_nil)
  (dss_cons (ds_if (dt_bool (dw_and (dt_cmp op_lt o3_bl0 (dv 3) (de_callB call_len u3_len rfl T.z_len bv_len (de_wix 0)))
   (dw_and1 (dt_cmp op_ge o3_bl0 (de_callB call_abs u3_abs rfl T.z_abs bv_abs (dv 4)) (de_op op_powG o3_int de_int de_int)))))
  (dss_cons (ds_set (i := 2) ndN (de_op op_plus o3_plus (de_op op_star o3_star de_int (de_op op_sub o3_int0 (de_callB call_abs u3_abs rfl T.z_abs bv_abs (dv 4)) (de_op op_powG o3_int de_int de_int))) (de_callT call_int1 u3_int rfl T.z_int bv_int (de_cmp op_lt o3_bl0 (dv 4) de_int))))
  (dss_cons (ds_wset 0 (de_op op_fdiv o3_int (dv 2) (dv 1)))
  (dss_one (ds_ret (de_op op_mod o3_int (de_callT call_int1 u3_int rfl T.z_int bv_int (dv 2)) (dv 1))))))
  dss_nil)
  (dss_cons (ds_set (i := 5) ndN (de_op op_mod o3_int (de_callT call_int1 u3_int rfl T.z_int bv_int (de_op op_powG o3_int (de_op op_plus o3_plus (de_op op_plus o3_plus (de_op op_mod o3_int (de_callT call_int1 u3_int rfl T.z_int bv_int (dv 4)) de_int) (de_op op_star o3_star de_int (dv 3))) de_int) de_int)) de_int))
  (dss_cons (ds_set (i := 5) ndN (de_op op_mod o3_int (de_callT call_int1 u3_int rfl T.z_int bv_int (de_op op_powG o3_int (de_op op_plus o3_plus (de_op op_plus o3_plus (de_op op_star o3_star (dv 5) (de_op op_plus o3_plus (de_op op_star o3_star de_int (dv 3)) de_int)) (de_op op_star o3_star (de_op op_star o3_star de_int (dv 3)) (dv 3))) de_int) de_int)) de_int))
  (dss_one (ds_ret (de_op op_mod o3_int (de_callT call_int1 u3_int rfl T.z_int bv_int (de_op op_fdiv o3_int (dv 5) de_int)) (dv 1)))))))))))))
abbrev st__law_one : Stmt := top 49
theorem sc__law_one : FnScope ["well", "some"] ["well", "some"] (defScope st__law_one) := ⟨rfl, rfl, rfl, by decide +kernel, rfl, by decide +kernel, by decide +kernel⟩
def t__law_one (sp__law_draw : SpD) : TDS :=
(dRet (dBin r3Ix (dVar 1) (dCallR 2 sp__law_draw (dRef 0 (dCons (dUn r31Len (dVar 1)) dNil)))))
theorem d__law_one {P : Program} {w : World} {K : PySem.W.Frag} {mg : Str → Option Value} {base : Heap} {k k_law_draw : Nat} {sp__law_draw : SpD} (T : Tx K w mg)
    (C__law_draw : Cal P w K mg base k_law_draw "_law_draw" 2 sp__law_draw []) (l__law_draw : k_law_draw ≤ k)
    {f : Addr} (cdv : Value) (A : Around) (outer : List Env) (s : Shared) (H : Hp) (E : XK) (c : C0) (hr : Room k (A.deeper (envOfC "_law_one" (defScope st__law_one) s.heap.objs.size f cdv)))
    (tk : Takes (cxOf (L2.CX P w) P w K mg base ["well", "some"] "_law_one" (defScope st__law_one) f cdv A outer s H E) (WE0 E)) (ho : PassesOwn (model P w) (cxOf (L2.CX P w) P w K mg base ["well", "some"] "_law_one" (defScope st__law_one) f cdv A outer s H E).A (cxOf (L2.CX P w) P w K mg base ["well", "some"] "_law_one" (defScope st__law_one) f cdv A outer s H E).env (cxOf (L2.CX P w) P w K mg base ["well", "some"] "_law_one" (defScope st__law_one) f cdv A outer s H E).xe) : DSs (cxOf (L2.CX P w) P w K mg base ["well", "some"] "_law_one" (defScope st__law_one) f cdv A outer s H E) c (WE0 E) (defBody st__law_one) (t__law_one sp__law_draw) := by
  have ndN : (cxOf (L2.CX P w) P w K mg base ["well", "some"] "_law_one" (defScope st__law_one) f cdv A outer s H E).N.Nodup := sc__law_one.nd
  exact (dss_one (ds_ret (de_ix ix_seq o3_ix (dv 1) (de_cr C__law_draw hr (by omega) tk (da_ref 0 (da_cons (de_callB call_len u3_len rfl T.z_len bv_len (dv 1)) da_nil))))))
abbrev st__law_order : Stmt := top 50
theorem sc__law_order : FnScope ["well", "some", "rest", "found"] ["well", "some"] (defScope st__law_order) := ⟨rfl, rfl, rfl, by decide +kernel, rfl, by decide +kernel, by decide +kernel⟩
def w1__law_order (sp__law_draw : SpD) : TDT :=
(dB (dBin r3Ne (dVar 2) (dLst dNil)))
def b1__law_order (sp__law_draw : SpD) : TDS :=
(dDrop (dApp 3 (dPopAt 2 (dCallR 2 sp__law_draw (dRef 0 (dCons (dUn r31Len (dVar 2)) dNil))))))
def t__law_order (sp__law_draw : SpD) : TDS :=
(dSeq (dPar 2 3 (dUn r31List (dVar 1)) (dLst dNil))
  (dSeq (dWhile (w1__law_order sp__law_draw) (b1__law_order sp__law_draw))
  (dRet (dVar 3))))
theorem d__law_order {P : Program} {w : World} {K : PySem.W.Frag} {mg : Str → Option Value} {base : Heap} {k k_law_draw : Nat} {sp__law_draw : SpD} (T : Tx K w mg)
    (C__law_draw : Cal P w K mg base k_law_draw "_law_draw" 2 sp__law_draw []) (l__law_draw : k_law_draw ≤ k)
    {f : Addr} (cdv : Value) (A : Around) (outer : List Env) (s : Shared) (H : Hp) (E : XK) (c : C0) (hr : Room k (A.deeper (envOfC "_law_order" (defScope st__law_order) s.heap.objs.size f cdv)))
    (tk : Takes (cxOf (L2.CX P w) P w K mg base ["well", "some", "rest", "found"] "_law_order" (defScope st__law_order) f cdv A outer s H E) (WE0 E)) (ho : PassesOwn (model P w) (cxOf (L2.CX P w) P w K mg base ["well", "some", "rest", "found"] "_law_order" (defScope st__law_order) f cdv A outer s H E).A (cxOf (L2.CX P w) P w K mg base ["well", "some", "rest", "found"] "_law_order" (defScope st__law_order) f cdv A outer s H E).env (cxOf (L2.CX P w) P w K mg base ["well", "some", "rest", "found"] "_law_order" (defScope st__law_order) f cdv A outer s H E).xe) : DSs (cxOf (L2.CX P w) P w K mg base ["well", "some", "rest", "found"] "_law_order" (defScope st__law_order) f cdv A outer s H E) c (WE0 E) (defBody st__law_order) (t__law_order sp__law_draw) := by
  have ndN : (cxOf (L2.CX P w) P w K mg base ["well", "some", "rest", "found"] "_law_order" (defScope st__law_order) f cdv A outer s H E).N.Nodup := sc__law_order.nd
  exact (dss_cons (ds_par (i := 2) (j := 3) rfl ndN (de_callT call_list_of u3_list rfl T.z_list bv_list (dv 1)) (de_lst da_nil))
  (dss_cons (ds_while ho (dt_cmp (op_ne3 (room200 hr)) o3_ne (dv 2) (de_lst da_nil))
  (dss_one (ds_expr (de_append 3 (de_popAt 2 (de_cr C__law_draw hr (by omega) tk (da_ref 0 (da_cons (de_callB call_len u3_len rfl T.z_len bv_len (dv 2)) da_nil))))))))
  (dss_one (ds_ret (dv 3)))))
abbrev st__law_kinds : Stmt := top 51
theorem sc__law_kinds : FnScope ["well", "many"] ["well", "many"] (defScope st__law_kinds) := ⟨rfl, rfl, rfl, by decide +kernel, rfl, by decide +kernel, by decide +kernel⟩
def t__law_kinds (sp__law_order : SpD) (sp__law_one : SpD) : TDS :=
(dRet (dSl (dCallR 2 sp__law_order (dRef 0 (dCons (dCallR 2 sp__law_one (dRef 0 (dCons (dLst (dCons (dLst (dCons (dC (.str "a")) (dCons (dC (.str "b")) (dCons (dC (.str "c")) (dCons (dC (.str "d")) (dCons (dC (.str "e")) dNil)))))) (dCons (dLst (dCons (dC (.str "coin")) (dCons (dC (.str "key")) (dCons (dC (.str "b")) (dCons (dC (.str "lamp")) (dCons (dC (.str "z")) dNil)))))) (dCons (dLst (dCons (dC (.str "z")) (dCons (dC (.str "zz")) (dCons (dC (.str "abcdefgh")) (dCons (dC (.str "y")) (dCons (dC (.str "a")) dNil)))))) (dCons (dLst (dCons (dC (.str "x")) (dCons (dC (.str "f")) (dCons (dC (.str "a")) (dCons (dC (.str "g")) (dCons (dC (.str "b")) dNil)))))) dNil))))) dNil))) dNil))) dNoPart (dPart (dVar 1))))
theorem d__law_kinds {P : Program} {w : World} {K : PySem.W.Frag} {mg : Str → Option Value} {base : Heap} {k k_law_order k_law_one : Nat} {sp__law_order : SpD} {sp__law_one : SpD} (T : Tx K w mg)
    (C__law_order : Cal P w K mg base k_law_order "_law_order" 2 sp__law_order []) (l__law_order : k_law_order ≤ k)
    (C__law_one : Cal P w K mg base k_law_one "_law_one" 2 sp__law_one []) (l__law_one : k_law_one ≤ k)
    {f : Addr} (cdv : Value) (A : Around) (outer : List Env) (s : Shared) (H : Hp) (E : XK) (c : C0) (hr : Room k (A.deeper (envOfC "_law_kinds" (defScope st__law_kinds) s.heap.objs.size f cdv)))
    (tk : Takes (cxOf (L2.CX P w) P w K mg base ["well", "many"] "_law_kinds" (defScope st__law_kinds) f cdv A outer s H E) (WE0 E)) (ho : PassesOwn (model P w) (cxOf (L2.CX P w) P w K mg base ["well", "many"] "_law_kinds" (defScope st__law_kinds) f cdv A outer s H E).A (cxOf (L2.CX P w) P w K mg base ["well", "many"] "_law_kinds" (defScope st__law_kinds) f cdv A outer s H E).env (cxOf (L2.CX P w) P w K mg base ["well", "many"] "_law_kinds" (defScope st__law_kinds) f cdv A outer s H E).xe) : DSs (cxOf (L2.CX P w) P w K mg base ["well", "many"] "_law_kinds" (defScope st__law_kinds) f cdv A outer s H E) c (WE0 E) (defBody st__law_kinds) (t__law_kinds sp__law_order sp__law_one) := by
  have ndN : (cxOf (L2.CX P w) P w K mg base ["well", "many"] "_law_kinds" (defScope st__law_kinds) f cdv A outer s H E).N.Nodup := sc__law_kinds.nd
  exact (dss_one (ds_ret (de_slice (de_cr C__law_order hr (by omega) tk (da_ref 0 (da_cons (de_cr C__law_one hr (by omega) tk (da_ref 0 (da_cons (de_lst (da_cons (de_lst (da_cons de_str (da_cons de_str (da_cons de_str (da_cons de_str (da_cons de_str da_nil)))))) (da_cons (de_lst (da_cons de_str (da_cons de_str (da_cons de_str (da_cons de_str (da_cons de_str da_nil)))))) (da_cons (de_lst (da_cons de_str (da_cons de_str (da_cons de_str (da_cons de_str (da_cons de_str da_nil)))))) (da_cons (de_lst (da_cons de_str (da_cons de_str (da_cons de_str (da_cons de_str (da_cons de_str da_nil)))))) da_nil))))) da_nil))) da_nil))) do_none (do_some (dv 1)))))
abbrev st__law_statement : Stmt := top 52
theorem sc__law_statement : FnScope ["well", "kinds", "size", "alone", "word", "first"] ["well", "kinds", "size", "alone"] (defScope st__law_statement) := ⟨rfl, rfl, rfl, by decide +kernel, rfl, by decide +kernel, by decide +kernel⟩
def t__law_statement (sp__law_draw : SpD) (sp__law_one : SpD) (sp__law_statement : SpD) : TDS :=
(dSeq (dIfS (dOr (dB (dBin r3Lt (dVar 2) (dC (.int (3)))))
   (dB (dBin r3Eq (dCallR 2 sp__law_draw (dRef 0 (dCons (dC (.int (5))) dNil))) (dC (.int (0))))))
  (dRet (dCallR 2 sp__law_one (dRef 0 (dCons (dBin r3Plus (dBin r3Plus (dBin r3Star (dUn r31List (dVar 1)) (dC (.int (3)))) (dLst (dCons (dC (.str "yes")) dNil))) (dIf (dB (dVar 3)) (dLst dNil) (dLst (dCons (dC (.str "no")) dNil)))) dNil))))
  dNext)
  (dSeq (dSet 4 (dCallR 2 sp__law_one (dRef 0 (dCons (dIf (dB (dVar 3)) (dLst (dCons (dC (.str "and")) (dCons (dC (.str "gives")) (dCons (dC (.str "gives")) (dCons (dC (.str "gives")) dNil))))) (dLst (dCons (dC (.str "and")) (dCons (dC (.str "or")) (dCons (dC (.str "or")) (dCons (dC (.str "gives")) (dCons (dC (.str "gives")) (dCons (dC (.str "gives")) dNil)))))))) dNil))))
  (dSeq (dSet 5 (dBin r3Plus (dC (.int (1))) (dBin r3Star (dC (.int (2))) (dCallR 2 sp__law_draw (dRef 0 (dCons (dBin r3Div (dBin r3Sub (dVar 2) (dC (.int (1)))) (dC (.int (2)))) dNil))))))
  (dRet (dTup (dCons (dVar 4) (dCons (dCallR 4 sp__law_statement (dRef 0 (dCons (dVar 1) (dCons (dVar 5) (dCons (dVar 3) dNil))))) (dCons (dCallR 4 sp__law_statement (dRef 0 (dCons (dVar 1) (dCons (dBin r3Sub (dBin r3Sub (dVar 2) (dC (.int (1)))) (dVar 5)) (dCons (dVar 3) dNil))))) dNil))))))))
theorem d__law_statement {P : Program} {w : World} {K : PySem.W.Frag} {mg : Str → Option Value} {base : Heap} {k k_law_draw k_law_one k_law_statement : Nat} {sp__law_draw : SpD} {sp__law_one : SpD} {sp__law_statement : SpD} (T : Tx K w mg)
    (C__law_draw : Cal P w K mg base k_law_draw "_law_draw" 2 sp__law_draw []) (l__law_draw : k_law_draw ≤ k)
    (C__law_one : Cal P w K mg base k_law_one "_law_one" 2 sp__law_one []) (l__law_one : k_law_one ≤ k)
    (C__law_statement : Cal P w K mg base k_law_statement "_law_statement" 4 sp__law_statement []) (l__law_statement : k_law_statement ≤ k)
    {f : Addr} (cdv : Value) (A : Around) (outer : List Env) (s : Shared) (H : Hp) (E : XK) (c : C0) (hr : Room k (A.deeper (envOfC "_law_statement" (defScope st__law_statement) s.heap.objs.size f cdv)))
    (tk : Takes (cxOf (L2.CX P w) P w K mg base ["well", "kinds", "size", "alone", "word", "first"] "_law_statement" (defScope st__law_statement) f cdv A outer s H E) (WE0 E)) (ho : PassesOwn (model P w) (cxOf (L2.CX P w) P w K mg base ["well", "kinds", "size", "alone", "word", "first"] "_law_statement" (defScope st__law_statement) f cdv A outer s H E).A (cxOf (L2.CX P w) P w K mg base ["well", "kinds", "size", "alone", "word", "first"] "_law_statement" (defScope st__law_statement) f cdv A outer s H E).env (cxOf (L2.CX P w) P w K mg base ["well", "kinds", "size", "alone", "word", "first"] "_law_statement" (defScope st__law_statement) f cdv A outer s H E).xe) : DSs (cxOf (L2.CX P w) P w K mg base ["well", "kinds", "size", "alone", "word", "first"] "_law_statement" (defScope st__law_statement) f cdv A outer s H E) c (WE0 E) (defBody st__law_statement) (t__law_statement sp__law_draw sp__law_one sp__law_statement) := by
  have ndN : (cxOf (L2.CX P w) P w K mg base ["well", "kinds", "size", "alone", "word", "first"] "_law_statement" (defScope st__law_statement) f cdv A outer s H E).N.Nodup := sc__law_statement.nd
  exact (dss_cons (ds_if (dt_bool (dw_or (dt_cmp op_lt o3_bl0 (dv 2) de_int)
   (dw_or1 (dt_cmp (op_eq3 (room200 hr)) o3_eq (de_cr C__law_draw hr (by omega) tk (da_ref 0 (da_cons de_int da_nil))) de_int))))
  (dss_one (ds_ret (de_cr C__law_one hr (by omega) tk (da_ref 0 (da_cons (de_op op_plus o3_plus (de_op op_plus o3_plus (de_op op_star o3_star (de_callT call_list_of u3_list rfl T.z_list bv_list (dv 1)) de_int) (de_lst (da_cons de_str da_nil))) (de_if (dt_val (dv 3)) (de_lst da_nil) (de_lst (da_cons de_str da_nil)))) da_nil)))))
  dss_nil)
  (dss_cons (ds_set (i := 4) ndN (de_cr C__law_one hr (by omega) tk (da_ref 0 (da_cons (de_if (dt_val (dv 3)) (de_lst (da_cons de_str (da_cons de_str (da_cons de_str (da_cons de_str da_nil))))) (de_lst (da_cons de_str (da_cons de_str (da_cons de_str (da_cons de_str (da_cons de_str (da_cons de_str da_nil)))))))) da_nil))))
  (dss_cons (ds_set (i := 5) ndN (de_op op_plus o3_plus de_int (de_op op_star o3_star de_int (de_cr C__law_draw hr (by omega) tk (da_ref 0 (da_cons (de_op op_fdiv o3_int (de_op op_sub o3_int0 (dv 2) de_int) de_int) da_nil))))))
  (dss_one (ds_ret (de_tup (da_cons (dv 4) (da_cons (de_cr C__law_statement hr (by omega) tk (da_ref 0 (da_cons (dv 1) (da_cons (dv 5) (da_cons (dv 3) da_nil))))) (da_cons (de_cr C__law_statement hr (by omega) tk (da_ref 0 (da_cons (dv 1) (da_cons (de_op op_sub o3_int0 (de_op op_sub o3_int0 (dv 2) de_int) (dv 5)) (da_cons (dv 3) da_nil))))) da_nil)))))))))
abbrev st__law_parts : Stmt := top 53
theorem sc__law_parts : FnScope ["statement"] ["statement"] (defScope st__law_parts) := ⟨rfl, rfl, rfl, by decide +kernel, rfl, by decide +kernel, by decide +kernel⟩
def t__law_parts (sp__law_parts : SpD) : TDS :=
(dSeq (dIfS (dB (dUn (r31Isi ["str"]) (dVar 0)))
  (dRet (dLst (dCons (dVar 0) dNil)))
  dNext)
  (dRet (dBin r3Plus (dBin r3Plus (dLst (dCons (dVar 0) dNil)) (dCall 1 sp__law_parts [] (dCons (dBin r3Ix (dVar 0) (dC (.int (1)))) dNil))) (dCall 1 sp__law_parts [] (dCons (dBin r3Ix (dVar 0) (dC (.int (2)))) dNil)))))
theorem d__law_parts {P : Program} {w : World} {K : PySem.W.Frag} {mg : Str → Option Value} {base : Heap} {k k_law_parts : Nat} {sp__law_parts : SpD} (T : Tx K w mg)
    (C__law_parts : Cal P w K mg base k_law_parts "_law_parts" 1 sp__law_parts []) (l__law_parts : k_law_parts ≤ k)
    {f : Addr} (cdv : Value) (A : Around) (outer : List Env) (s : Shared) (H : Hp) (E : XK) (c : C0) (hr : Room k (A.deeper (envOfC "_law_parts" (defScope st__law_parts) s.heap.objs.size f cdv)))
    (tk : Takes (cxOf (L2.CX P w) P w K mg base ["statement"] "_law_parts" (defScope st__law_parts) f cdv A outer s H E) (WE0 E)) (ho : PassesOwn (model P w) (cxOf (L2.CX P w) P w K mg base ["statement"] "_law_parts" (defScope st__law_parts) f cdv A outer s H E).A (cxOf (L2.CX P w) P w K mg base ["statement"] "_law_parts" (defScope st__law_parts) f cdv A outer s H E).env (cxOf (L2.CX P w) P w K mg base ["statement"] "_law_parts" (defScope st__law_parts) f cdv A outer s H E).xe) : DSs (cxOf (L2.CX P w) P w K mg base ["statement"] "_law_parts" (defScope st__law_parts) f cdv A outer s H E) c (WE0 E) (defBody st__law_parts) (t__law_parts sp__law_parts) := by
  have ndN : (cxOf (L2.CX P w) P w K mg base ["statement"] "_law_parts" (defScope st__law_parts) f cdv A outer s H E).N.Nodup := sc__law_parts.nd
  exact (dss_cons (ds_if (dt_val (de_isi1 "str" rfl rfl T.z_isinstance rfl T.z_str bv_str (dv 0)))
  (dss_one (ds_ret (de_lst (da_cons (dv 0) da_nil))))
  dss_nil)
  (dss_one (ds_ret (de_op op_plus o3_plus (de_op op_plus o3_plus (de_lst (da_cons (dv 0) da_nil)) (de_c C__law_parts hr (by omega) tk (da_cons (de_ix ix_seq o3_ix (dv 0) de_int) da_nil))) (de_c C__law_parts hr (by omega) tk (da_cons (de_ix ix_seq o3_ix (dv 0) de_int) da_nil))))))
abbrev st__law_deep : Stmt := top 54
theorem sc__law_deep : FnScope ["value", "one"] ["value"] (defScope st__law_deep) := ⟨rfl, rfl, rfl, by decide +kernel, rfl, by decide +kernel, by decide +kernel⟩
def t__law_deep (sp__law_deep : SpD) : TDS :=
(dRet (dIf (dB (dUn (r31Isi ["list", "tuple"]) (dVar 0))) (dLc (diSeq (dVar 0)) (dgName 1) dYes (dCall 1 sp__law_deep [] (dCons (dVar 1) dNil)) [1]) (dVar 0)))
theorem d__law_deep {P : Program} {w : World} {K : PySem.W.Frag} {mg : Str → Option Value} {base : Heap} {k k_law_deep : Nat} {sp__law_deep : SpD} (T : Tx K w mg)
    (C__law_deep : Cal P w K mg base k_law_deep "_law_deep" 1 sp__law_deep []) (l__law_deep : k_law_deep ≤ k)
    {f : Addr} (cdv : Value) (A : Around) (outer : List Env) (s : Shared) (H : Hp) (E : XK) (c : C0) (hr : Room k (A.deeper (envOfC "_law_deep" (defScope st__law_deep) s.heap.objs.size f cdv)))
    (tk : Takes (cxOf (L2.CX P w) P w K mg base ["value", "one"] "_law_deep" (defScope st__law_deep) f cdv A outer s H E) (WE0 E)) (ho : PassesOwn (model P w) (cxOf (L2.CX P w) P w K mg base ["value", "one"] "_law_deep" (defScope st__law_deep) f cdv A outer s H E).A (cxOf (L2.CX P w) P w K mg base ["value", "one"] "_law_deep" (defScope st__law_deep) f cdv A outer s H E).env (cxOf (L2.CX P w) P w K mg base ["value", "one"] "_law_deep" (defScope st__law_deep) f cdv A outer s H E).xe) : DSs (cxOf (L2.CX P w) P w K mg base ["value", "one"] "_law_deep" (defScope st__law_deep) f cdv A outer s H E) c (WE0 E) (defBody st__law_deep) (t__law_deep sp__law_deep) := by
  have ndN : (cxOf (L2.CX P w) P w K mg base ["value", "one"] "_law_deep" (defScope st__law_deep) f cdv A outer s H E).N.Nodup := sc__law_deep.nd
  exact (dss_one (ds_ret (de_if (dt_val (de_isi2 "list" "tuple" rfl rfl rfl T.z_isinstance rfl T.z_list bv_list rfl T.z_tuple bv_tuple (dv 0))) (de_lc rfl ndN [("one", 1)] rfl (di_seq (dv 0)) (fun _ _ _ _ _ => (dg_name (i := 1) ndN)) (fun _ _ _ _ _ => dts_nil) (fun _ _ _ _ _ => (de_c C__law_deep hr (by omega) takes0 (da_cons (dv 1) da_nil)))) (dv 0))))
abbrev st__law_heard : Stmt := top 55
theorem sc__law_heard : FnScope ["ask", "caught", "told", "error"] ["ask"] (defScope st__law_heard) := ⟨rfl, rfl, rfl, by decide +kernel, rfl, by decide +kernel, by decide +kernel⟩
def t__law_heard (U : XAd) (ft : Addr) (τ : Tau) (sp__law_part_heard : SpD) : TDS :=
(dSeq (dAsg (dTup (dCons (dC .non) (dCons (dC .non) dNil))) (dgTup 2 (dgCons (dgName 1) (dgCons (dgName 2) dgNil))))
  (dSeq (dTry (U.iE U.v_RunError) 3 1 (dSet 2 (dThunk 0 ft τ)))
  (dSeq (dIfS (dB (dBin r3Is (dVar 1) (dC .non)))
  (dRet (dLst (dCons (dVar 2) dNil)))
  dNext)
  (dSeq (dIfS (dB (dUn (r31IsC (U.iv U.v_BadText)) (dVar 1)))
  (dRet (dTup (dCons (dC (.str "text")) (dCons (dUn (r31Fld (U.oA "line") "line") (dVar 1)) (dCons (dUn (r31Fld (U.oA "word") "word") (dVar 1)) dNil)))))
  dNext)
  (dSeq (dIfS (dB (dUn (r31IsC (U.iv U.v_TooMany)) (dVar 1)))
  (dRet (dTup (dCons (dC (.str "many")) (dCons (dUn (r31Fld (U.oA "what") "what") (dVar 1)) (dCons (dUn (r31Fld (U.oA "most") "most") (dVar 1)) dNil)))))
  dNext)
  (dSeq (dIfS (dB (dUn (r31IsC2 (U.iv U.v_BadName) (U.iv U.v_BadCommand)) (dVar 1)))
  (dRet (dIf (dB (dUn (r31IsC (U.iv U.v_BadName)) (dVar 1))) (dTup (dCons (dC (.str "name")) (dCons (dUn (r31Fld (U.oA "value") "value") (dVar 1)) dNil))) (dTup (dCons (dC (.str "command")) (dCons (dUn (r31Fld (U.oA "word") "word") (dVar 1)) dNil)))))
  dNext)
  (dSeq (dIfS (dB (dUn (r31IsC (U.iv U.v_Nothing)) (dVar 1)))
  (dRet (dTup (dCons (dC (.str "nothing")) dNil)))
  dNext)
  (dRet (dCall 1 sp__law_part_heard [] (dCons (dVar 1) dNil))))))))))
theorem d__law_heard {P : Program} {w : World} {K : PySem.W.Frag} {mg : Str → Option Value} {base : Heap} {k k_law_part_heard : Nat} {U : XAd} {ft : Addr} {τ : Tau} {sp__law_part_heard : SpD} (T : Tx K w mg) (F : XFa P w K mg base U)
    (C__law_part_heard : Cal P w K mg base k_law_part_heard "_law_part_heard" 1 sp__law_part_heard []) (l__law_part_heard : k_law_part_heard ≤ k)
    {f : Addr} (cdv : Value) (A : Around) (outer : List Env) (s : Shared) (H : Hp) (c : C0) (hr : Room k (A.deeper (envOfC "_law_heard" (defScope st__law_heard) s.heap.objs.size f cdv)))
    (tk : Takes (cxOf (L2.CX P w) P w K mg base ["ask", "caught", "told", "error"] "_law_heard" (defScope st__law_heard) f cdv A outer s H (fun _ _ _ => False)) (WE0 (fun _ _ _ => False))) (ho : PassesOwn (model P w) (cxOf (L2.CX P w) P w K mg base ["ask", "caught", "told", "error"] "_law_heard" (defScope st__law_heard) f cdv A outer s H (fun _ _ _ => False)).A (cxOf (L2.CX P w) P w K mg base ["ask", "caught", "told", "error"] "_law_heard" (defScope st__law_heard) f cdv A outer s H (fun _ _ _ => False)).env (cxOf (L2.CX P w) P w K mg base ["ask", "caught", "told", "error"] "_law_heard" (defScope st__law_heard) f cdv A outer s H (fun _ _ _ => False)).xe) (hth : ∀ (p1 p2 : Pos) (W' : WX) (pn : List (Addr × Obj)) (xe : Value → Shared → Prop), Takes ((cxOf (L2.CX P w) P w K mg base ["ask", "caught", "told", "error"] "_law_heard" (defScope st__law_heard) f cdv A outer s H (fun _ _ _ => False)).tr pn xe) W' → DE ((cxOf (L2.CX P w) P w K mg base ["ask", "caught", "told", "error"] "_law_heard" (defScope st__law_heard) f cdv A outer s H (fun _ _ _ => False)).tr pn xe) c W' (.Call (.Name "ask" p1) [] [] p2) (dThunk 0 ft τ)) : DSs (cxOf (L2.CX P w) P w K mg base ["ask", "caught", "told", "error"] "_law_heard" (defScope st__law_heard) f cdv A outer s H (fun _ _ _ => False)) c (WE0 (fun _ _ _ => False)) (defBody st__law_heard) (t__law_heard U ft τ sp__law_part_heard) := by
  have ndN : (cxOf (L2.CX P w) P w K mg base ["ask", "caught", "told", "error"] "_law_heard" (defScope st__law_heard) f cdv A outer s H (fun _ _ _ => False)).N.Nodup := sc__law_heard.nd
  exact (dss_cons (ds_asg (de_tup (da_cons de_non (da_cons de_non da_nil))) (dg_tup rfl (dgs_cons (dg_name (i := 1) ndN) (dgs_cons (dg_name (i := 2) ndN) dgs_nil))))
  (dss_cons (ds_try (F.hiE U.v_RunError) rfl rfl rfl ndN (i := 3) (j := 1) rfl rfl (by decide) rfl rfl ⟨rfl, by decide, .inl F.m_RunError⟩ tk (by decide) (by decide) fun W' pn xe tk' po => (dss_one (ds_set (i := 2) ndN (hth _ _ _ _ _ tk'))))
  (dss_cons (ds_if (dt_cmp op_is o3_is (dv 1) de_non)
  (dss_one (ds_ret (de_lst (da_cons (dv 2) da_nil))))
  dss_nil)
  (dss_cons (ds_if (dt_val (de_isC (F.hiv U.v_BadText) T.z_isinstance F.m_BadText (dv 1)))
  (dss_one (ds_ret (de_tup (da_cons de_str (da_cons (de_fld (F.hoA "line") (dv 1)) (da_cons (de_fld (F.hoA "word") (dv 1)) da_nil))))))
  dss_nil)
  (dss_cons (ds_if (dt_val (de_isC (F.hiv U.v_TooMany) T.z_isinstance F.m_TooMany (dv 1)))
  (dss_one (ds_ret (de_tup (da_cons de_str (da_cons (de_fld (F.hoA "what") (dv 1)) (da_cons (de_fld (F.hoA "most") (dv 1)) da_nil))))))
  dss_nil)
  (dss_cons (ds_if (dt_val (de_isC2 (F.hiv U.v_BadName) (F.hiv U.v_BadCommand) T.z_isinstance F.m_BadName F.m_BadCommand (dv 1)))
  (dss_one (ds_ret (de_if (dt_val (de_isC (F.hiv U.v_BadName) T.z_isinstance F.m_BadName (dv 1))) (de_tup (da_cons de_str (da_cons (de_fld (F.hoA "value") (dv 1)) da_nil))) (de_tup (da_cons de_str (da_cons (de_fld (F.hoA "word") (dv 1)) da_nil))))))
  dss_nil)
  (dss_cons (ds_if (dt_val (de_isC (F.hiv U.v_Nothing) T.z_isinstance F.m_Nothing (dv 1)))
  (dss_one (ds_ret (de_tup (da_cons de_str da_nil))))
  dss_nil)
  (dss_one (ds_ret (de_c C__law_part_heard hr (by omega) tk (da_cons (dv 1) da_nil)))))))))))
abbrev st__law_part_heard : Stmt := top 56
theorem sc__law_part_heard : FnScope ["caught", "kinds", "found", "word", "is_so"] ["caught"] (defScope st__law_part_heard) := ⟨rfl, rfl, rfl, by decide +kernel, rfl, by decide +kernel, by decide +kernel⟩
def t__law_part_heard (U : XAd) : TDS :=
(dSeq (dSet 1 (dLst (dCons (dTup (dCons (dC (.str "statement")) (dCons (dUn (r31IsC (U.iv U.v_BadStatement)) (dVar 0)) dNil))) (dCons (dTup (dCons (dC (.str "sheet")) (dCons (dUn (r31IsC (U.iv U.v_BadSheet)) (dVar 0)) dNil))) (dCons (dTup (dCons (dC (.str "term")) (dCons (dUn (r31IsC (U.iv U.v_BadTerm)) (dVar 0)) dNil))) (dCons (dTup (dCons (dC (.str "house")) (dCons (dUn (r31IsC (U.iv U.v_BadHouse)) (dVar 0)) dNil))) dNil))))))
  (dSeq (dSet 1 (dBin r3Plus (dVar 1) (dLst (dCons (dTup (dCons (dC (.str "code")) (dCons (dUn (r31IsC (U.iv U.v_BadCode)) (dVar 0)) dNil))) (dCons (dTup (dCons (dC (.str "value")) (dCons (dUn (r31IsC (U.iv U.v_BadValue)) (dVar 0)) dNil))) (dCons (dTup (dCons (dC (.str "number")) (dCons (dUn (r31IsC (U.iv U.v_BadNumber)) (dVar 0)) dNil))) (dCons (dTup (dCons (dC (.str "paper")) (dCons (dUn (r31IsC (U.iv U.v_BadPaper)) (dVar 0)) dNil))) dNil)))))))
  (dSeq (dSet 1 (dBin r3Plus (dVar 1) (dLst (dCons (dTup (dCons (dC (.str "library")) (dCons (dUn (r31IsC (U.iv U.v_BadLibrary)) (dVar 0)) dNil))) (dCons (dTup (dCons (dC (.str "misfit")) (dCons (dUn (r31IsC (U.iv U.v_Misfit)) (dVar 0)) dNil))) dNil)))))
  (dSeq (dSet 2 (dLc (diSeq (dVar 1)) (dgTup 2 (dgCons (dgName 3) (dgCons (dgName 4) dgNil))) (dB (dVar 4)) (dVar 3) [3, 4]))
  (dRet (dIf (dAnd (dB (dBin r3Eq (dUn r31Len (dVar 2)) (dC (.int (1)))))
   (dB (dUn (r31IsC (U.iv U.v_PartError)) (dVar 0)))) (dTup (dCons (dBin r3Ix (dVar 2) (dC (.int (0)))) (dCons (dUn (r31Fld (U.oA "part") "part") (dVar 0)) dNil))) (dTup (dCons (dC (.str "other")) dNil))))))))
theorem d__law_part_heard {P : Program} {w : World} {K : PySem.W.Frag} {mg : Str → Option Value} {base : Heap} {k : Nat} {U : XAd} (T : Tx K w mg) (F : XFa P w K mg base U)
    {f : Addr} (cdv : Value) (A : Around) (outer : List Env) (s : Shared) (H : Hp) (E : XK) (c : C0) (hr : Room k (A.deeper (envOfC "_law_part_heard" (defScope st__law_part_heard) s.heap.objs.size f cdv)))
    (tk : Takes (cxOf (L2.CX P w) P w K mg base ["caught", "kinds", "found", "word", "is_so"] "_law_part_heard" (defScope st__law_part_heard) f cdv A outer s H E) (WE0 E)) (ho : PassesOwn (model P w) (cxOf (L2.CX P w) P w K mg base ["caught", "kinds", "found", "word", "is_so"] "_law_part_heard" (defScope st__law_part_heard) f cdv A outer s H E).A (cxOf (L2.CX P w) P w K mg base ["caught", "kinds", "found", "word", "is_so"] "_law_part_heard" (defScope st__law_part_heard) f cdv A outer s H E).env (cxOf (L2.CX P w) P w K mg base ["caught", "kinds", "found", "word", "is_so"] "_law_part_heard" (defScope st__law_part_heard) f cdv A outer s H E).xe) : DSs (cxOf (L2.CX P w) P w K mg base ["caught", "kinds", "found", "word", "is_so"] "_law_part_heard" (defScope st__law_part_heard) f cdv A outer s H E) c (WE0 E) (defBody st__law_part_heard) (t__law_part_heard U) := by
  have ndN : (cxOf (L2.CX P w) P w K mg base ["caught", "kinds", "found", "word", "is_so"] "_law_part_heard" (defScope st__law_part_heard) f cdv A outer s H E).N.Nodup := sc__law_part_heard.nd
  exact (dss_cons (ds_set (i := 1) ndN (de_lst (da_cons (de_tup (da_cons de_str (da_cons (de_isC (F.hiv U.v_BadStatement) T.z_isinstance F.m_BadStatement (dv 0)) da_nil))) (da_cons (de_tup (da_cons de_str (da_cons (de_isC (F.hiv U.v_BadSheet) T.z_isinstance F.m_BadSheet (dv 0)) da_nil))) (da_cons (de_tup (da_cons de_str (da_cons (de_isC (F.hiv U.v_BadTerm) T.z_isinstance F.m_BadTerm (dv 0)) da_nil))) (da_cons (de_tup (da_cons de_str (da_cons (de_isC (F.hiv U.v_BadHouse) T.z_isinstance F.m_BadHouse (dv 0)) da_nil))) da_nil))))))
  (dss_cons (ds_set (i := 1) ndN (de_op op_plus o3_plus (dv 1) (de_lst (da_cons (de_tup (da_cons de_str (da_cons (de_isC (F.hiv U.v_BadCode) T.z_isinstance F.m_BadCode (dv 0)) da_nil))) (da_cons (de_tup (da_cons de_str (da_cons (de_isC (F.hiv U.v_BadValue) T.z_isinstance F.m_BadValue (dv 0)) da_nil))) (da_cons (de_tup (da_cons de_str (da_cons (de_isC (F.hiv U.v_BadNumber) T.z_isinstance F.m_BadNumber (dv 0)) da_nil))) (da_cons (de_tup (da_cons de_str (da_cons (de_isC (F.hiv U.v_BadPaper) T.z_isinstance F.m_BadPaper (dv 0)) da_nil))) da_nil)))))))
  (dss_cons (ds_set (i := 1) ndN (de_op op_plus o3_plus (dv 1) (de_lst (da_cons (de_tup (da_cons de_str (da_cons (de_isC (F.hiv U.v_BadLibrary) T.z_isinstance F.m_BadLibrary (dv 0)) da_nil))) (da_cons (de_tup (da_cons de_str (da_cons (de_isC (F.hiv U.v_Misfit) T.z_isinstance F.m_Misfit (dv 0)) da_nil))) da_nil)))))
  (dss_cons (ds_setLc rfl ndN [("word", 3), ("is_so", 4)] rfl (di_seq (dv 1)) (fun _ _ _ _ _ => (dg_tup rfl (dgs_cons (dg_name (i := 3) ndN) (dgs_cons (dg_name (i := 4) ndN) dgs_nil)))) (fun _ _ _ _ _ => (dts_one (dt_val (dv 4)))) (fun _ _ _ _ _ => (dv 3)))
  (dss_one (ds_ret (de_if (dt_bool (dw_and (dt_cmp (op_eq3 (room200 hr)) o3_eq (de_callB call_len u3_len rfl T.z_len bv_len (dv 2)) de_int)
   (dw_and1 (dt_val (de_isC (F.hiv U.v_PartError) T.z_isinstance F.m_PartError (dv 0)))))) (de_tup (da_cons (de_ix ix_seq o3_ix (dv 2) de_int) (da_cons (de_fld (F.hoA "part") (dv 0)) da_nil))) (de_tup (da_cons de_str da_nil)))))))))
abbrev st__law_is_name : Stmt := top 57
theorem sc__law_is_name : FnScope ["value", "words", "sign"] ["value"] (defScope st__law_is_name) := ⟨rfl, rfl, rfl, by decide +kernel, rfl, by decide +kernel, by decide +kernel⟩
def t__law_is_name : TDS :=
(dSeq (dSet 1 (dLst (dCons (dC (.str "and")) (dCons (dC (.str "or")) (dCons (dC (.str "gives")) (dCons (dC (.str "yes")) (dCons (dC (.str "no")) (dCons (dC (.str "fun")) (dCons (dC (.str "call")) (dCons (dC (.str "pair")) (dCons (dC (.str "first")) (dCons (dC (.str "second")) (dCons (dC (.str "left")) (dCons (dC (.str "right")) (dCons (dC (.str "case")) (dCons (dC (.str "unit")) (dCons (dC (.str "never")) (dCons (dC (.str "hole")) dNil))))))))))))))))))
  (dSeq (dIfS (dOr (dNot (dB (dUn (r31Isi ["str"]) (dVar 0))))
   (dOr (dB (dBin r3In (dVar 0) (dVar 1)))
   (dB (dNinR (1) (9) (dUn r31Len (dVar 0))))))
  (dRet (dC (.bl false)))
  dNext)
  (dRet (dBin r3Eq (dLc (diSeq (dVar 0)) (dgName 2) (dB (dBin r3NotIn (dVar 2) (dC (.str "abcdefghijklmnopqrstuvwxyz")))) (dVar 2) [2]) (dLst dNil)))))
theorem d__law_is_name {P : Program} {w : World} {K : PySem.W.Frag} {mg : Str → Option Value} {base : Heap} {k : Nat} (T : Tx K w mg)
    {f : Addr} (cdv : Value) (A : Around) (outer : List Env) (s : Shared) (H : Hp) (E : XK) (c : C0) (hr : Room k (A.deeper (envOfC "_law_is_name" (defScope st__law_is_name) s.heap.objs.size f cdv)))
    (tk : Takes (cxOf (L2.CX P w) P w K mg base ["value", "words", "sign"] "_law_is_name" (defScope st__law_is_name) f cdv A outer s H E) (WE0 E)) (ho : PassesOwn (model P w) (cxOf (L2.CX P w) P w K mg base ["value", "words", "sign"] "_law_is_name" (defScope st__law_is_name) f cdv A outer s H E).A (cxOf (L2.CX P w) P w K mg base ["value", "words", "sign"] "_law_is_name" (defScope st__law_is_name) f cdv A outer s H E).env (cxOf (L2.CX P w) P w K mg base ["value", "words", "sign"] "_law_is_name" (defScope st__law_is_name) f cdv A outer s H E).xe) : DSs (cxOf (L2.CX P w) P w K mg base ["value", "words", "sign"] "_law_is_name" (defScope st__law_is_name) f cdv A outer s H E) c (WE0 E) (defBody st__law_is_name) (t__law_is_name) := by
  have ndN : (cxOf (L2.CX P w) P w K mg base ["value", "words", "sign"] "_law_is_name" (defScope st__law_is_name) f cdv A outer s H E).N.Nodup := sc__law_is_name.nd
  exact (dss_cons (ds_set (i := 1) ndN (de_lst (da_cons de_str (da_cons de_str (da_cons de_str (da_cons de_str (da_cons de_str (da_cons de_str (da_cons de_str (da_cons de_str (da_cons de_str (da_cons de_str (da_cons de_str (da_cons de_str (da_cons de_str (da_cons de_str (da_cons de_str (da_cons de_str da_nil))))))))))))))))))
  (dss_cons (ds_if (dt_bool (dw_or (dt_not (dt_val (de_isi1 "str" rfl rfl T.z_isinstance rfl T.z_str bv_str (dv 0))))
   (dw_or (dt_cmp op_in o3_in (dv 0) (dv 1))
   (dw_or1 (dt_ninR T.z_range bv_range (de_callB call_len u3_len rfl T.z_len bv_len (dv 0)))))))
  (dss_one (ds_ret de_bl))
  dss_nil)
  (dss_one (ds_ret (de_cmp (op_eq3 (room200 hr)) o3_eq (de_lc rfl ndN [("sign", 2)] rfl (di_seq (dv 0)) (fun _ _ _ _ _ => (dg_name (i := 2) ndN)) (fun _ _ _ _ _ => (dts_one (dt_cmp op_notIn o3_notIn (dv 2) de_str))) (fun _ _ _ _ _ => (dv 2))) (de_lst da_nil))))))
abbrev st__law_is_statement : Stmt := top 58
theorem sc__law_is_statement : FnScope ["value"] ["value"] (defScope st__law_is_statement) := ⟨rfl, rfl, rfl, by decide +kernel, rfl, by decide +kernel, by decide +kernel⟩
def t__law_is_statement (sp__law_is_name : SpD) (sp__law_is_statement : SpD) : TDS :=
(dSeq (dIfS (dB (dUn (r31Isi ["str"]) (dVar 0)))
  (dRet (dOrV (dBin r3In (dVar 0) (dTup (dCons (dC (.str "yes")) (dCons (dC (.str "no")) dNil))))
   (dCall 1 sp__law_is_name [] (dCons (dVar 0) dNil))))
  dNext)
  (dSeq (dIfS (dOr (dNot (dB (dUn (r31Isi ["list", "tuple"]) (dVar 0))))
   (dOr (dB (dBin r3Ne (dUn r31Len (dVar 0)) (dC (.int (3)))))
   (dOr (dNot (dB (dUn (r31Isi ["str"]) (dBin r3Ix (dVar 0) (dC (.int (0)))))))
   (dB (dBin r3NotIn (dBin r3Ix (dVar 0) (dC (.int (0)))) (dTup (dCons (dC (.str "and")) (dCons (dC (.str "or")) (dCons (dC (.str "gives")) dNil)))))))))
  (dRet (dC (.bl false)))
  dNext)
  (dRet (dAndV (dCall 1 sp__law_is_statement [] (dCons (dBin r3Ix (dVar 0) (dC (.int (1)))) dNil))
   (dCall 1 sp__law_is_statement [] (dCons (dBin r3Ix (dVar 0) (dC (.int (2)))) dNil))))))
theorem d__law_is_statement {P : Program} {w : World} {K : PySem.W.Frag} {mg : Str → Option Value} {base : Heap} {k k_law_is_name k_law_is_statement : Nat} {sp__law_is_name : SpD} {sp__law_is_statement : SpD} (T : Tx K w mg)
    (C__law_is_name : Cal P w K mg base k_law_is_name "_law_is_name" 1 sp__law_is_name []) (l__law_is_name : k_law_is_name ≤ k)
    (C__law_is_statement : Cal P w K mg base k_law_is_statement "_law_is_statement" 1 sp__law_is_statement []) (l__law_is_statement : k_law_is_statement ≤ k)
    {f : Addr} (cdv : Value) (A : Around) (outer : List Env) (s : Shared) (H : Hp) (E : XK) (c : C0) (hr : Room k (A.deeper (envOfC "_law_is_statement" (defScope st__law_is_statement) s.heap.objs.size f cdv)))
    (tk : Takes (cxOf (L2.CX P w) P w K mg base ["value"] "_law_is_statement" (defScope st__law_is_statement) f cdv A outer s H E) (WE0 E)) (ho : PassesOwn (model P w) (cxOf (L2.CX P w) P w K mg base ["value"] "_law_is_statement" (defScope st__law_is_statement) f cdv A outer s H E).A (cxOf (L2.CX P w) P w K mg base ["value"] "_law_is_statement" (defScope st__law_is_statement) f cdv A outer s H E).env (cxOf (L2.CX P w) P w K mg base ["value"] "_law_is_statement" (defScope st__law_is_statement) f cdv A outer s H E).xe) : DSs (cxOf (L2.CX P w) P w K mg base ["value"] "_law_is_statement" (defScope st__law_is_statement) f cdv A outer s H E) c (WE0 E) (defBody st__law_is_statement) (t__law_is_statement sp__law_is_name sp__law_is_statement) := by
  have ndN : (cxOf (L2.CX P w) P w K mg base ["value"] "_law_is_statement" (defScope st__law_is_statement) f cdv A outer s H E).N.Nodup := sc__law_is_statement.nd
  exact (dss_cons (ds_if (dt_val (de_isi1 "str" rfl rfl T.z_isinstance rfl T.z_str bv_str (dv 0)))
  (dss_one (ds_ret (de_or (de_cmp op_in o3_in (dv 0) (de_tup (da_cons de_str (da_cons de_str da_nil))))
   (de_one (de_c C__law_is_name hr (by omega) tk (da_cons (dv 0) da_nil))))))
  dss_nil)
  (dss_cons (ds_if (dt_bool (dw_or (dt_not (dt_val (de_isi2 "list" "tuple" rfl rfl rfl T.z_isinstance rfl T.z_list bv_list rfl T.z_tuple bv_tuple (dv 0))))
   (dw_or (dt_cmp (op_ne3 (room200 hr)) o3_ne (de_callB call_len u3_len rfl T.z_len bv_len (dv 0)) de_int)
   (dw_or (dt_not (dt_val (de_isi1 "str" rfl rfl T.z_isinstance rfl T.z_str bv_str (de_ix ix_seq o3_ix (dv 0) de_int))))
   (dw_or1 (dt_cmp op_notIn o3_notIn (de_ix ix_seq o3_ix (dv 0) de_int) (de_tup (da_cons de_str (da_cons de_str (da_cons de_str da_nil))))))))))
  (dss_one (ds_ret de_bl))
  dss_nil)
  (dss_one (ds_ret (de_and (de_c C__law_is_statement hr (by omega) tk (da_cons (de_ix ix_seq o3_ix (dv 0) de_int) da_nil))
   (de_one (de_c C__law_is_statement hr (by omega) tk (da_cons (de_ix ix_seq o3_ix (dv 0) de_int) da_nil))))))))
abbrev st__law_flat : Stmt := top 59
theorem sc__law_flat : FnScope ["value"] ["value"] (defScope st__law_flat) := ⟨rfl, rfl, rfl, by decide +kernel, rfl, by decide +kernel, by decide +kernel⟩
def t__law_flat (sp__law_flat : SpD) : TDS :=
(dRet (dIf (dB (dUn (r31Isi ["str"]) (dVar 0))) (dLst (dCons (dVar 0) dNil)) (dBin r3Plus (dBin r3Plus (dLst (dCons (dBin r3Ix (dVar 0) (dC (.int (0)))) dNil)) (dCall 1 sp__law_flat [] (dCons (dBin r3Ix (dVar 0) (dC (.int (1)))) dNil))) (dCall 1 sp__law_flat [] (dCons (dBin r3Ix (dVar 0) (dC (.int (2)))) dNil)))))
theorem d__law_flat {P : Program} {w : World} {K : PySem.W.Frag} {mg : Str → Option Value} {base : Heap} {k k_law_flat : Nat} {sp__law_flat : SpD} (T : Tx K w mg)
    (C__law_flat : Cal P w K mg base k_law_flat "_law_flat" 1 sp__law_flat []) (l__law_flat : k_law_flat ≤ k)
    {f : Addr} (cdv : Value) (A : Around) (outer : List Env) (s : Shared) (H : Hp) (E : XK) (c : C0) (hr : Room k (A.deeper (envOfC "_law_flat" (defScope st__law_flat) s.heap.objs.size f cdv)))
    (tk : Takes (cxOf (L2.CX P w) P w K mg base ["value"] "_law_flat" (defScope st__law_flat) f cdv A outer s H E) (WE0 E)) (ho : PassesOwn (model P w) (cxOf (L2.CX P w) P w K mg base ["value"] "_law_flat" (defScope st__law_flat) f cdv A outer s H E).A (cxOf (L2.CX P w) P w K mg base ["value"] "_law_flat" (defScope st__law_flat) f cdv A outer s H E).env (cxOf (L2.CX P w) P w K mg base ["value"] "_law_flat" (defScope st__law_flat) f cdv A outer s H E).xe) : DSs (cxOf (L2.CX P w) P w K mg base ["value"] "_law_flat" (defScope st__law_flat) f cdv A outer s H E) c (WE0 E) (defBody st__law_flat) (t__law_flat sp__law_flat) := by
  have ndN : (cxOf (L2.CX P w) P w K mg base ["value"] "_law_flat" (defScope st__law_flat) f cdv A outer s H E).N.Nodup := sc__law_flat.nd
  exact (dss_one (ds_ret (de_if (dt_val (de_isi1 "str" rfl rfl T.z_isinstance rfl T.z_str bv_str (dv 0))) (de_lst (da_cons (dv 0) da_nil)) (de_op op_plus o3_plus (de_op op_plus o3_plus (de_lst (da_cons (de_ix ix_seq o3_ix (dv 0) de_int) da_nil)) (de_c C__law_flat hr (by omega) tk (da_cons (de_ix ix_seq o3_ix (dv 0) de_int) da_nil))) (de_c C__law_flat hr (by omega) tk (da_cons (de_ix ix_seq o3_ix (dv 0) de_int) da_nil))))))
abbrev st__law_bent : Stmt := top 60
theorem sc__law_bent : FnScope ["well", "statement", "odd", "side"] ["well", "statement"] (defScope st__law_bent) := ⟨rfl, rfl, rfl, by decide +kernel, rfl, by decide +kernel, by decide +kernel⟩
def t__law_bent (sp__law_draw : SpD) (sp__law_one : SpD) (sp__law_bent : SpD) : TDS :=
(dSeq (dIfS (dOr (dB (dUn (r31Isi ["str"]) (dVar 1)))
   (dB (dBin r3Eq (dCallR 2 sp__law_draw (dRef 0 (dCons (dC (.int (3))) dNil))) (dC (.int (0))))))
  (dSeq (dSet 2 (dLst (dCons (dC (.str "Yes")) (dCons (dC (.str "")) (dCons (dC (.str "gives")) (dCons (dC (.str "and")) (dCons (dC (.str "unit")) (dCons (dC (.str "abcdefghi")) (dCons (dC .non) (dCons (dC (.int (5))) (dCons (dTup dNil) (dCons (dC (.bl true)) (dCons (dTup (dCons (dC (.str "and")) dNil)) (dCons (dTup (dCons (dC (.str "or")) (dCons (dC (.str "a")) dNil))) (dCons (dTup (dCons (dC (.str "but")) (dCons (dC (.str "a")) (dCons (dC (.str "b")) dNil)))) (dCons (dLst (dCons (dC (.str "gives")) (dCons (dC (.str "a")) (dCons (dC (.str "b")) dNil)))) (dCons (dTup (dCons (dC (.str "gives")) (dCons (dC (.str "a")) (dCons (dC (.str "b")) (dCons (dC (.str "c")) dNil))))) (dCons (dC (.str "a")) dNil))))))))))))))))))
  (dRet (dCallR 2 sp__law_one (dRef 0 (dCons (dVar 2) dNil)))))
  dNext)
  (dSeq (dSet 3 (dBin r3Plus (dC (.int (1))) (dCallR 2 sp__law_draw (dRef 0 (dCons (dC (.int (2))) dNil)))))
  (dRet (dBin r3Plus (dBin r3Plus (dSl (dVar 1) dNoPart (dPart (dVar 3))) (dTup (dCons (dCallR 2 sp__law_bent (dRef 0 (dCons (dBin r3Ix (dVar 1) (dVar 3)) dNil))) dNil))) (dSl (dVar 1) (dPart (dBin r3Plus (dVar 3) (dC (.int (1))))) dNoPart)))))
theorem d__law_bent {P : Program} {w : World} {K : PySem.W.Frag} {mg : Str → Option Value} {base : Heap} {k k_law_draw k_law_one k_law_bent : Nat} {sp__law_draw : SpD} {sp__law_one : SpD} {sp__law_bent : SpD} (T : Tx K w mg)
    (C__law_draw : Cal P w K mg base k_law_draw "_law_draw" 2 sp__law_draw []) (l__law_draw : k_law_draw ≤ k)
    (C__law_one : Cal P w K mg base k_law_one "_law_one" 2 sp__law_one []) (l__law_one : k_law_one ≤ k)
    (C__law_bent : Cal P w K mg base k_law_bent "_law_bent" 2 sp__law_bent []) (l__law_bent : k_law_bent ≤ k)
    {f : Addr} (cdv : Value) (A : Around) (outer : List Env) (s : Shared) (H : Hp) (E : XK) (c : C0) (hr : Room k (A.deeper (envOfC "_law_bent" (defScope st__law_bent) s.heap.objs.size f cdv)))
    (tk : Takes (cxOf (L2.CX P w) P w K mg base ["well", "statement", "odd", "side"] "_law_bent" (defScope st__law_bent) f cdv A outer s H E) (WE0 E)) (ho : PassesOwn (model P w) (cxOf (L2.CX P w) P w K mg base ["well", "statement", "odd", "side"] "_law_bent" (defScope st__law_bent) f cdv A outer s H E).A (cxOf (L2.CX P w) P w K mg base ["well", "statement", "odd", "side"] "_law_bent" (defScope st__law_bent) f cdv A outer s H E).env (cxOf (L2.CX P w) P w K mg base ["well", "statement", "odd", "side"] "_law_bent" (defScope st__law_bent) f cdv A outer s H E).xe) : DSs (cxOf (L2.CX P w) P w K mg base ["well", "statement", "odd", "side"] "_law_bent" (defScope st__law_bent) f cdv A outer s H E) c (WE0 E) (defBody st__law_bent) (t__law_bent sp__law_draw sp__law_one sp__law_bent) := by
  have ndN : (cxOf (L2.CX P w) P w K mg base ["well", "statement", "odd", "side"] "_law_bent" (defScope st__law_bent) f cdv A outer s H E).N.Nodup := sc__law_bent.nd
  exact (dss_cons (ds_if (dt_bool (dw_or (dt_val (de_isi1 "str" rfl rfl T.z_isinstance rfl T.z_str bv_str (dv 1)))
   (dw_or1 (dt_cmp (op_eq3 (room200 hr)) o3_eq (de_cr C__law_draw hr (by omega) tk (da_ref 0 (da_cons de_int da_nil))) de_int))))
  (dss_cons (ds_set (i := 2) ndN (de_lst (da_cons de_str (da_cons de_str (da_cons de_str (da_cons de_str (da_cons de_str (da_cons de_str (da_cons de_non (da_cons de_int (da_cons (de_tup da_nil) (da_cons de_bl (da_cons (de_tup (da_cons de_str da_nil)) (da_cons (de_tup (da_cons de_str (da_cons de_str da_nil))) (da_cons (de_tup (da_cons de_str (da_cons de_str (da_cons de_str da_nil)))) (da_cons (de_lst (da_cons de_str (da_cons de_str (da_cons de_str da_nil)))) (da_cons (de_tup (da_cons de_str (da_cons de_str (da_cons de_str (da_cons de_str da_nil))))) (da_cons de_str da_nil))))))))))))))))))
  (dss_one (ds_ret (de_cr C__law_one hr (by omega) tk (da_ref 0 (da_cons (dv 2) da_nil))))))
  dss_nil)
  (dss_cons (ds_set (i := 3) ndN (de_op op_plus o3_plus de_int (de_cr C__law_draw hr (by omega) tk (da_ref 0 (da_cons de_int da_nil)))))
  (dss_one (ds_ret (de_op op_plus o3_plus (de_op op_plus o3_plus (de_slice (dv 1) do_none (do_some (dv 3))) (de_tup (da_cons (de_cr C__law_bent hr (by omega) tk (da_ref 0 (da_cons (de_ix ix_seq o3_ix (dv 1) (dv 3)) da_nil))) da_nil))) (de_slice (dv 1) (do_some (de_op op_plus o3_plus (dv 3) de_int)) do_none))))))
abbrev st__law_long : Stmt := top 61
theorem sc__law_long : FnScope ["many", "found", "turn"] ["many"] (defScope st__law_long) := ⟨rfl, rfl, rfl, by decide +kernel, rfl, by decide +kernel, by decide +kernel⟩
def b1__law_long : TDS :=
(dSet 1 (dIf (dB (dBin r3Eq (dBin r3Mod (dUn r31Int (dVar 2)) (dC (.int (2)))) (dC (.int (0))))) (dTup (dCons (dC (.str "gives")) (dCons (dVar 1) (dCons (dC (.str "b")) dNil)))) (dTup (dCons (dC (.str "and")) (dCons (dC (.str "c")) (dCons (dVar 1) dNil))))))
def t__law_long : TDS :=
(dSeq (dSet 1 (dC (.str "a")))
  (dSeq (dFor (diRng1 (dBin r3Div (dVar 0) (dC (.int (2))))) (dgName 2) (b1__law_long))
  (dRet (dVar 1))))
theorem d__law_long {P : Program} {w : World} {K : PySem.W.Frag} {mg : Str → Option Value} {base : Heap} {k : Nat} (T : Tx K w mg)
    {f : Addr} (cdv : Value) (A : Around) (outer : List Env) (s : Shared) (H : Hp) (E : XK) (c : C0) (hr : Room k (A.deeper (envOfC "_law_long" (defScope st__law_long) s.heap.objs.size f cdv)))
    (tk : Takes (cxOf (L2.CX P w) P w K mg base ["many", "found", "turn"] "_law_long" (defScope st__law_long) f cdv A outer s H E) (WE0 E)) (ho : PassesOwn (model P w) (cxOf (L2.CX P w) P w K mg base ["many", "found", "turn"] "_law_long" (defScope st__law_long) f cdv A outer s H E).A (cxOf (L2.CX P w) P w K mg base ["many", "found", "turn"] "_law_long" (defScope st__law_long) f cdv A outer s H E).env (cxOf (L2.CX P w) P w K mg base ["many", "found", "turn"] "_law_long" (defScope st__law_long) f cdv A outer s H E).xe) : DSs (cxOf (L2.CX P w) P w K mg base ["many", "found", "turn"] "_law_long" (defScope st__law_long) f cdv A outer s H E) c (WE0 E) (defBody st__law_long) (t__law_long) := by
  have ndN : (cxOf (L2.CX P w) P w K mg base ["many", "found", "turn"] "_law_long" (defScope st__law_long) f cdv A outer s H E).N.Nodup := sc__law_long.nd
  exact (dss_cons (ds_set (i := 1) ndN de_str)
  (dss_cons (ds_for ho rfl (di_rng1 rfl T.z_range (de_op op_fdiv o3_int (dv 0) de_int)) (dg_name (i := 2) ndN)
  (dss_one (ds_set (i := 1) ndN (de_if (dt_cmp (op_eq3 (room200 hr)) o3_eq (de_op op_mod o3_int (de_callT call_int1 u3_int rfl T.z_int bv_int (dv 2)) de_int) de_int) (de_tup (da_cons de_str (da_cons (dv 1) (da_cons de_str da_nil)))) (de_tup (da_cons de_str (da_cons de_str (da_cons (dv 1) da_nil))))))))
  (dss_one (ds_ret (dv 1)))))
abbrev st_law : Stmt := top 62
theorem sc_law : FnScope ["script", "well", "turn", "kinds", "plain", "parts", "listed", "due", "straight", "is_right", "heard", "great", "other", "part", "one", "many"] ["script"] (defScope st_law) := ⟨rfl, rfl, rfl, by decide +kernel, rfl, by decide +kernel, by decide +kernel⟩
def b1_law (hv : D → D) (hx : XV → Option D) (sp__law_well : SpL) (sp__law_kinds : SpD) (sp__law_draw : SpD) (sp__law_statement : SpD) (sp__law_one : SpD) (sp__law_parts : SpD) (sp__law_deep : SpD) (sp_is_statement : SpD) (sp_parts_of : SpD) (sp_size_of : SpD) (sp_kinds_of : SpD) (sp_is_straight : SpD) (sp__law_bent : SpD) (sp__law_is_statement : SpD) (sp__law_flat : SpD) (sp__law_long : SpD) : TDS :=
(dSeq (dSet 3 (dCallR 2 sp__law_kinds (dRef 1 (dCons (dBin r3Plus (dC (.int (1))) (dCallR 2 sp__law_draw (dRef 1 (dCons (dC (.int (3))) dNil)))) dNil))))
  (dSeq (dSet 4 (dCallR 4 sp__law_statement (dRef 1 (dCons (dVar 3) (dCons (dCallR 2 sp__law_one (dRef 1 (dCons (dLst (dCons (dC (.int (1))) (dCons (dC (.int (3))) (dCons (dC (.int (7))) (dCons (dC (.int (15))) (dCons (dC (.int (23))) dNil)))))) dNil))) (dCons (dBin r3Eq (dCallR 2 sp__law_draw (dRef 1 (dCons (dC (.int (2))) dNil))) (dC (.int (0)))) dNil))))))
  (dSeq (dPar 5 6 (dCall 1 sp__law_parts [] (dCons (dVar 4) dNil)) (dCall 1 sp__law_deep [] (dCons (dVar 4) dNil)))
  (dSeq (dIfS (dOr (dB (dBin r3IsNot (dCall 1 sp_is_statement [] (dCons (dVar 4) dNil)) (dC (.bl true))))
   (dOr (dB (dBin r3IsNot (dKw 1 0 1 gId sp_is_statement dNil (dCons (dVar 6) dNil)) (dC (.bl true))))
   (dOr (dB (dBin r3Ne (dUn r31Repr (dCall 1 sp_parts_of [] (dCons (dVar 6) dNil))) (dUn r31Repr (dUn r31Tuple (dVar 5)))))
   (dB (dBin r3Ne (dKw 1 0 1 gId sp_parts_of dNil (dCons (dVar 4) dNil)) (dUn r31Tuple (dVar 5)))))))
  (dRet (dC (.bl false)))
  dNext)
  (dSeq (dIfS (dOr (dB (dBin r3Ne (dLst (dCons (dCall 1 sp_size_of [] (dCons (dVar 4) dNil)) (dCons (dKw 1 0 1 gId sp_size_of dNil (dCons (dVar 6) dNil)) dNil))) (dBin r3Star (dLst (dCons (dUn r31Len (dVar 5)) dNil)) (dC (.int (2))))))
   (dB (dBin r3Ne (dVar 6) (dCall 1 sp__law_deep [] (dCons (dVar 4) dNil)))))
  (dRet (dC (.bl false)))
  dNext)
  (dSeq (dSet 7 (dUn r31Tuple (dUn r31SortSet (dLc (diSeq (dVar 5)) (dgName 13) (dAnd (dB (dUn (r31Isi ["str"]) (dVar 13)))
   (dB (dBin r3NotIn (dVar 13) (dTup (dCons (dC (.str "yes")) (dCons (dC (.str "no")) dNil)))))) (dVar 13) [13]))))
  (dSeq (dIfS (dB (dBin r3Ne (dLst (dCons (dCall 1 sp_kinds_of [] (dCons (dVar 4) dNil)) (dCons (dKw 1 0 1 gId sp_kinds_of dNil (dCons (dVar 6) dNil)) dNil))) (dBin r3Star (dLst (dCons (dVar 7) dNil)) (dC (.int (2))))))
  (dRet (dC (.bl false)))
  dNext)
  (dSeq (dSet 8 (dBin r3Eq (dLc (diSeq (dVar 5)) (dgName 13) (dOr (dB (dBin r3Eq (dVar 13) (dC (.str "no"))))
   (dAnd (dB (dBin r3Eq (dBin r3Ix (dVar 13) (dC (.int (0)))) (dC (.str "or"))))
   (dNot (dB (dUn (r31Isi ["str"]) (dVar 13)))))) (dVar 13) [13]) (dLst dNil)))
  (dSeq (dIfS (dB (dBin r3Ne (dUn r31Repr (dLst (dCons (dCall 1 sp_is_straight [] (dCons (dVar 4) dNil)) (dCons (dKw 1 0 1 gId sp_is_straight dNil (dCons (dVar 6) dNil)) dNil)))) (dUn r31Repr (dBin r3Star (dLst (dCons (dVar 8) dNil)) (dC (.int (2)))))))
  (dRet (dC (.bl false)))
  dNext)
  (dSeq (dSet 12 (dCallR 2 sp__law_bent (dRef 1 (dCons (dVar 4) dNil))))
  (dSeq (dSet 9 (dAndV (dCall 1 sp__law_is_statement [] (dCons (dVar 12) dNil))
   (dBin r3Lt (dUn r31Len (dCall 1 sp__law_flat [] (dCons (dVar 12) dNil))) (dC (.int (25))))))
  (dSeq (dIfS (dB (dBin r3Ne (dUn r31Repr (dCall 1 sp_is_statement [] (dCons (dVar 12) dNil))) (dUn r31Repr (dVar 9))))
  (dRet (dC (.bl false)))
  dNext)
  (dSeq (dSet 10 (dLst (dCons (dHeard 1 sp_parts_of [.v 12] hv hx) (dCons (dHeard 1 sp_size_of [.v 12] hv hx) (dCons (dHeard 1 sp_kinds_of [.v 12] hv hx) (dCons (dHeard 1 sp_is_straight [.v 12] hv hx) dNil))))))
  (dIfS (dOr (dAnd (dNot (dB (dVar 9)))
   (dB (dBin r3Ne (dVar 10) (dBin r3Star (dLst (dCons (dTup (dCons (dC (.str "statement")) (dCons (dC (.str "statement")) dNil))) dNil)) (dC (.int (4)))))))
   (dAnd (dB (dVar 9))
   (dB (dBin r3Ne (dLc (diSeq (dVar 10)) (dgName 14) (dNot (dB (dUn (r31Isi ["list"]) (dVar 14)))) (dC (.int (1))) [14]) (dLst dNil)))))
  (dRet (dC (.bl false)))
  dNext))))))))))))))
def t_law (hv : D → D) (hx : XV → Option D) (sp__law_well : SpL) (sp__law_kinds : SpD) (sp__law_draw : SpD) (sp__law_statement : SpD) (sp__law_one : SpD) (sp__law_parts : SpD) (sp__law_deep : SpD) (sp_is_statement : SpD) (sp_parts_of : SpD) (sp_size_of : SpD) (sp_kinds_of : SpD) (sp_is_straight : SpD) (sp__law_bent : SpD) (sp__law_is_statement : SpD) (sp__law_flat : SpD) (sp__law_long : SpD) : TDS :=
(dSeq (dSet 1 (dCallW 1 0 sp__law_well (dCons (dVar 0) dNil)))
  (dSeq (dFor (diRng1 (dC (.int (8)))) (dgName 2) (b1_law hv hx sp__law_well sp__law_kinds sp__law_draw sp__law_statement sp__law_one sp__law_parts sp__law_deep sp_is_statement sp_parts_of sp_size_of sp_kinds_of sp_is_straight sp__law_bent sp__law_is_statement sp__law_flat sp__law_long))
  (dSeq (dSet 11 (dLc (diSeq (dTup (dCons (dC (.int (21))) (dCons (dC (.int (23))) (dCons (dC (.int (25))) (dCons (dC (.int (27))) (dCons (dC (.int (201))) dNil))))))) (dgName 15) dYes (dCall 1 sp__law_long [] (dCons (dVar 15) dNil)) [15]))
  (dSeq (dIfS (dOr (dB (dBin r3Ne (dLc (diSeq (dVar 11)) (dgName 14) dYes (dCall 1 sp_is_statement [] (dCons (dVar 14) dNil)) [14]) (dLst (dCons (dC (.bl true)) (dCons (dC (.bl true)) (dCons (dC (.bl false)) (dCons (dC (.bl false)) (dCons (dC (.bl false)) dNil))))))))
   (dB (dBin r3Ne (dCall 1 sp_size_of [] (dCons (dBin r3Ix (dVar 11) (dC (.int (1)))) dNil)) (dC (.int (23))))))
  (dRet (dC (.bl false)))
  dNext)
  (dRet (dBin r3Eq (dLst (dCons (dHeard 1 sp_parts_of [.ix 11 2] hv hx) (dCons (dHeard 1 sp_size_of [.ix 11 4] hv hx) dNil))) (dBin r3Star (dLst (dCons (dTup (dCons (dC (.str "statement")) (dCons (dC (.str "statement")) dNil))) dNil)) (dC (.int (2))))))))))
theorem d_law {P : Program} {w : World} {K : PySem.W.Frag} {mg : Str → Option Value} {base : Heap} {k k_law_well k_law_kinds k_law_draw k_law_statement k_law_one k_law_parts k_law_deep kis_statement kparts_of ksize_of kkinds_of kis_straight k_law_bent k_law_is_statement k_law_flat k_law_long : Nat} {hv : D → D} {hx : XV → Option D} {sp__law_well : SpL} {sp__law_kinds : SpD} {sp__law_draw : SpD} {sp__law_statement : SpD} {sp__law_one : SpD} {sp__law_parts : SpD} {sp__law_deep : SpD} {sp_is_statement : SpD} {sp_parts_of : SpD} {sp_size_of : SpD} {sp_kinds_of : SpD} {sp_is_straight : SpD} {sp__law_bent : SpD} {sp__law_is_statement : SpD} {sp__law_flat : SpD} {sp__law_long : SpD} (T : Tx K w mg)
    (C__law_well : CalL P w K mg base k_law_well "_law_well" 1 sp__law_well) (l__law_well : k_law_well + 2 ≤ k)
    (C__law_kinds : Cal P w K mg base k_law_kinds "_law_kinds" 2 sp__law_kinds []) (l__law_kinds : k_law_kinds + 2 ≤ k)
    (C__law_draw : Cal P w K mg base k_law_draw "_law_draw" 2 sp__law_draw []) (l__law_draw : k_law_draw + 2 ≤ k)
    (C__law_statement : Cal P w K mg base k_law_statement "_law_statement" 4 sp__law_statement []) (l__law_statement : k_law_statement + 2 ≤ k)
    (C__law_one : Cal P w K mg base k_law_one "_law_one" 2 sp__law_one []) (l__law_one : k_law_one + 2 ≤ k)
    (C__law_parts : Cal P w K mg base k_law_parts "_law_parts" 1 sp__law_parts []) (l__law_parts : k_law_parts + 2 ≤ k)
    (C__law_deep : Cal P w K mg base k_law_deep "_law_deep" 1 sp__law_deep []) (l__law_deep : k_law_deep + 2 ≤ k)
    (C_is_statement : Cal P w K mg base kis_statement "is_statement" 1 sp_is_statement []) (l_is_statement : kis_statement + 2 ≤ k)
    (K_is_statement : CalK P w K mg base kis_statement "is_statement" 1 0 ["value"] gId sp_is_statement) (m_is_statement : kis_statement + 2 ≤ k)
    (C_parts_of : Cal P w K mg base kparts_of "parts_of" 1 sp_parts_of []) (l_parts_of : kparts_of + 2 ≤ k)
    (K_parts_of : CalK P w K mg base kparts_of "parts_of" 1 0 ["statement"] gId sp_parts_of) (m_parts_of : kparts_of + 2 ≤ k)
    (C_size_of : Cal P w K mg base ksize_of "size_of" 1 sp_size_of []) (l_size_of : ksize_of + 2 ≤ k)
    (K_size_of : CalK P w K mg base ksize_of "size_of" 1 0 ["statement"] gId sp_size_of) (m_size_of : ksize_of + 2 ≤ k)
    (C_kinds_of : Cal P w K mg base kkinds_of "kinds_of" 1 sp_kinds_of []) (l_kinds_of : kkinds_of + 2 ≤ k)
    (K_kinds_of : CalK P w K mg base kkinds_of "kinds_of" 1 0 ["statement"] gId sp_kinds_of) (m_kinds_of : kkinds_of + 2 ≤ k)
    (C_is_straight : Cal P w K mg base kis_straight "is_straight" 1 sp_is_straight []) (l_is_straight : kis_straight + 2 ≤ k)
    (K_is_straight : CalK P w K mg base kis_straight "is_straight" 1 0 ["statement"] gId sp_is_straight) (m_is_straight : kis_straight + 2 ≤ k)
    (C__law_bent : Cal P w K mg base k_law_bent "_law_bent" 2 sp__law_bent []) (l__law_bent : k_law_bent + 2 ≤ k)
    (C__law_is_statement : Cal P w K mg base k_law_is_statement "_law_is_statement" 1 sp__law_is_statement []) (l__law_is_statement : k_law_is_statement + 2 ≤ k)
    (C__law_flat : Cal P w K mg base k_law_flat "_law_flat" 1 sp__law_flat []) (l__law_flat : k_law_flat + 2 ≤ k)
    (C__law_long : Cal P w K mg base k_law_long "_law_long" 1 sp__law_long []) (l__law_long : k_law_long + 2 ≤ k)
    {kH : Nat} (lH : kH + 2 ≤ k) {cda Pt : Addr} (TB : LamX.TabB base mg cda Pt)
    (HC_is_straight : HCal P w K mg base kH "_law_heard" 1 sp_is_straight hv hx)
    (HC_kinds_of : HCal P w K mg base kH "_law_heard" 1 sp_kinds_of hv hx)
    (HC_size_of : HCal P w K mg base kH "_law_heard" 1 sp_size_of hv hx)
    (HC_parts_of : HCal P w K mg base kH "_law_heard" 1 sp_parts_of hv hx)
    {f : Addr} (A : Around) (outer : List Env) (s : Shared) (H : Hp) (E : XK) (c : C0) (hr : Room k (A.deeper (envOfC "law" (defScope st_law) s.heap.objs.size f (.ref cda))))
    (tk : Takes (cxOf (L2.CX P w) P w K mg base ["script", "well", "turn", "kinds", "plain", "parts", "listed", "due", "straight", "is_right", "heard", "great", "other", "part", "one", "many"] "law" (defScope st_law) f (.ref cda) A outer s H E) (WE0 E)) (ho : PassesOwn (model P w) (cxOf (L2.CX P w) P w K mg base ["script", "well", "turn", "kinds", "plain", "parts", "listed", "due", "straight", "is_right", "heard", "great", "other", "part", "one", "many"] "law" (defScope st_law) f (.ref cda) A outer s H E).A (cxOf (L2.CX P w) P w K mg base ["script", "well", "turn", "kinds", "plain", "parts", "listed", "due", "straight", "is_right", "heard", "great", "other", "part", "one", "many"] "law" (defScope st_law) f (.ref cda) A outer s H E).env (cxOf (L2.CX P w) P w K mg base ["script", "well", "turn", "kinds", "plain", "parts", "listed", "due", "straight", "is_right", "heard", "great", "other", "part", "one", "many"] "law" (defScope st_law) f (.ref cda) A outer s H E).xe) (k2 : 2 ≤ k) (hgd : (cxOf (L2.CX P w) P w K mg base ["script", "well", "turn", "kinds", "plain", "parts", "listed", "due", "straight", "is_right", "heard", "great", "other", "part", "one", "many"] "law" (defScope st_law) f (.ref cda) A outer s H E).A.guards = some []) (hT : c.T = [(Pt, LamD.lamQ (cxOf (L2.CX P w) P w K mg base ["script", "well", "turn", "kinds", "plain", "parts", "listed", "due", "straight", "is_right", "heard", "great", "other", "part", "one", "many"] "law" (defScope st_law) f (.ref cda) A outer s H E))]) : DSs (cxOf (L2.CX P w) P w K mg base ["script", "well", "turn", "kinds", "plain", "parts", "listed", "due", "straight", "is_right", "heard", "great", "other", "part", "one", "many"] "law" (defScope st_law) f (.ref cda) A outer s H E) c (WE0 E) (defBody st_law) (t_law hv hx sp__law_well sp__law_kinds sp__law_draw sp__law_statement sp__law_one sp__law_parts sp__law_deep sp_is_statement sp_parts_of sp_size_of sp_kinds_of sp_is_straight sp__law_bent sp__law_is_statement sp__law_flat sp__law_long) := by
  have hr2 := hr.mono (show (k - 2) + 2 ≤ k by omega)
  have ndN : (cxOf (L2.CX P w) P w K mg base ["script", "well", "turn", "kinds", "plain", "parts", "listed", "due", "straight", "is_right", "heard", "great", "other", "part", "one", "many"] "law" (defScope st_law) f (.ref cda) A outer s H E).N.Nodup := sc_law.nd
  exact (dss_cons (ds_set (i := 1) ndN (de_cW 0 C__law_well hr (by omega) tk (da_cons (dv 0) da_nil)))
  (dss_cons (ds_for ho rfl (di_rng1 rfl T.z_range de_int) (dg_name (i := 2) ndN)
  (dss_cons (ds_set (i := 3) ndN (de_cr C__law_kinds hr (by omega) tk (da_ref 1 (da_cons (de_op op_plus o3_plus de_int (de_cr C__law_draw hr (by omega) tk (da_ref 1 (da_cons de_int da_nil)))) da_nil))))
  (dss_cons (ds_set (i := 4) ndN (de_cr C__law_statement hr (by omega) tk (da_ref 1 (da_cons (dv 3) (da_cons (de_cr C__law_one hr (by omega) tk (da_ref 1 (da_cons (de_lst (da_cons de_int (da_cons de_int (da_cons de_int (da_cons de_int (da_cons de_int da_nil)))))) da_nil))) (da_cons (de_cmp (op_eq3 (room200 hr)) o3_eq (de_cr C__law_draw hr (by omega) tk (da_ref 1 (da_cons de_int da_nil))) de_int) da_nil))))))
  (dss_cons (ds_par (i := 5) (j := 6) rfl ndN (de_c C__law_parts hr (by omega) tk (da_cons (dv 4) da_nil)) (de_c C__law_deep hr (by omega) tk (da_cons (dv 4) da_nil)))
  (dss_cons (ds_if (dt_bool (dw_or (dt_cmp op_isNot o3_isNot (de_c C_is_statement hr (by omega) tk (da_cons (dv 4) da_nil)) de_bl)
   (dw_or (dt_cmp op_isNot o3_isNot (de_k0 K_is_statement hr (by omega) tk (dk_cons (dv 6) dk_nil)) de_bl)
   (dw_or (dt_cmp (op_ne3 (room200 hr)) o3_ne (de_callB (call_reprD hgd hr) u3_repr rfl T.z_repr bv_repr (de_c C_parts_of hr (by omega) tk (da_cons (dv 6) da_nil))) (de_callB (call_reprD hgd hr) u3_repr rfl T.z_repr bv_repr (de_callT call_tuple_of u3_tuple rfl T.z_tuple bv_tuple (dv 5))))
   (dw_or1 (dt_cmp (op_ne3 (room200 hr)) o3_ne (de_k0 K_parts_of hr (by omega) tk (dk_cons (dv 4) dk_nil)) (de_callT call_tuple_of u3_tuple rfl T.z_tuple bv_tuple (dv 5))))))))
  (dss_one (ds_ret de_bl))
  dss_nil)
  (dss_cons (ds_if (dt_bool (dw_or (dt_cmp (op_ne3 (room200 hr)) o3_ne (de_lst (da_cons (de_c C_size_of hr (by omega) tk (da_cons (dv 4) da_nil)) (da_cons (de_k0 K_size_of hr (by omega) tk (dk_cons (dv 6) dk_nil)) da_nil))) (de_op op_star o3_star (de_lst (da_cons (de_callB call_len u3_len rfl T.z_len bv_len (dv 5)) da_nil)) de_int))
   (dw_or1 (dt_cmp (op_ne3 (room200 hr)) o3_ne (dv 6) (de_c C__law_deep hr (by omega) tk (da_cons (dv 4) da_nil))))))
  (dss_one (ds_ret de_bl))
  dss_nil)
  (dss_cons (ds_set (i := 7) ndN (de_callT call_tuple_of u3_tuple rfl T.z_tuple bv_tuple (de_sortSet rfl T.z_sorted bv_sorted T.z_set bv_set (de_lc rfl ndN [("part", 13)] rfl (di_seq (dv 5)) (fun _ _ _ _ _ => (dg_name (i := 13) ndN)) (fun _ _ _ _ _ => (dts_one (dt_bool (dw_and (dt_val (de_isi1 "str" rfl rfl T.z_isinstance rfl T.z_str bv_str (dv 13)))
   (dw_and1 (dt_cmp op_notIn o3_notIn (dv 13) (de_tup (da_cons de_str (da_cons de_str da_nil))))))))) (fun _ _ _ _ _ => (dv 13))))))
  (dss_cons (ds_if (dt_cmp (op_ne3 (room200 hr)) o3_ne (de_lst (da_cons (de_c C_kinds_of hr (by omega) tk (da_cons (dv 4) da_nil)) (da_cons (de_k0 K_kinds_of hr (by omega) tk (dk_cons (dv 6) dk_nil)) da_nil))) (de_op op_star o3_star (de_lst (da_cons (dv 7) da_nil)) de_int))
  (dss_one (ds_ret de_bl))
  dss_nil)
  (dss_cons (ds_set (i := 8) ndN (de_cmp (op_eq3 (room200 hr)) o3_eq (de_lc rfl ndN [("part", 13)] rfl (di_seq (dv 5)) (fun _ _ _ _ _ => (dg_name (i := 13) ndN)) (fun _ _ _ _ _ => (dts_one (dt_bool (dw_or (dt_cmp (op_eq3 (room200 hr)) o3_eq (dv 13) de_str)
   (dw_or1 (dt_bool (dw_and (dt_cmp (op_eq3 (room200 hr)) o3_eq (de_ix ix_seq o3_ix (dv 13) de_int) de_str)
   (dw_and1 (dt_not (dt_val (de_isi1 "str" rfl rfl T.z_isinstance rfl T.z_str bv_str (dv 13)))))))))))) (fun _ _ _ _ _ => (dv 13))) (de_lst da_nil)))
  (dss_cons (ds_if (dt_cmp (op_ne3 (room200 hr)) o3_ne (de_callB (call_reprD hgd hr) u3_repr rfl T.z_repr bv_repr (de_lst (da_cons (de_c C_is_straight hr (by omega) tk (da_cons (dv 4) da_nil)) (da_cons (de_k0 K_is_straight hr (by omega) tk (dk_cons (dv 6) dk_nil)) da_nil)))) (de_callB (call_reprD hgd hr) u3_repr rfl T.z_repr bv_repr (de_op op_star o3_star (de_lst (da_cons (dv 8) da_nil)) de_int)))
  (dss_one (ds_ret de_bl))
  dss_nil)
  (dss_cons (ds_set (i := 12) ndN (de_cr C__law_bent hr (by omega) tk (da_ref 1 (da_cons (dv 4) da_nil))))
  (dss_cons (ds_set (i := 9) ndN (de_and (de_c C__law_is_statement hr (by omega) tk (da_cons (dv 12) da_nil))
   (de_one (de_cmp op_lt o3_bl0 (de_callB call_len u3_len rfl T.z_len bv_len (de_c C__law_flat hr (by omega) tk (da_cons (dv 12) da_nil))) de_int))))
  (dss_cons (ds_if (dt_cmp (op_ne3 (room200 hr)) o3_ne (de_callB (call_reprD hgd hr) u3_repr rfl T.z_repr bv_repr (de_c C_is_statement hr (by omega) tk (da_cons (dv 12) da_nil))) (de_callB (call_reprD hgd hr) u3_repr rfl T.z_repr bv_repr (dv 9)))
  (dss_one (ds_ret de_bl))
  dss_nil)
  (dss_cons (ds_set (i := 10) ndN (de_lst (da_cons (de_hd [.v 12] HC_parts_of (by omega) C_parts_of (by omega) hr2 TB rfl hT (show LamD.LamN ["script", "well", "turn", "kinds", "plain", "parts", "listed", "due", "straight", "is_right", "heard", "great", "other", "part", "one", "many"] (defScope st_law) _ from LamD.lamN_by (by decide +kernel)) ⟨fun _ _ _ _ _ _ _ => rfl, fun _ _ _ h => by cases h⟩ rfl (.inl rfl) True.intro rfl (fun A outer s H E f c' => (pa_cons (pe_var (i := 12) rfl (Or.inr (Or.inr rfl)) (by decide) (by decide)) pa_nil))) (da_cons (de_hd [.v 12] HC_size_of (by omega) C_size_of (by omega) hr2 TB rfl hT (show LamD.LamN ["script", "well", "turn", "kinds", "plain", "parts", "listed", "due", "straight", "is_right", "heard", "great", "other", "part", "one", "many"] (defScope st_law) _ from LamD.lamN_by (by decide +kernel)) ⟨fun h => (by cases h), fun _ _ _ h => ⟨"a1", rfl, fun _ _ _ _ _ _ _ => ⟨_, rfl, fun _ => rfl⟩⟩⟩ rfl (.inr ⟨_, _, _, rfl⟩) True.intro rfl (fun A outer s H E f c' => (pa_cons (pe_var (i := 12) rfl (Or.inr (Or.inr rfl)) (by decide) (by decide)) pa_nil))) (da_cons (de_hd [.v 12] HC_kinds_of (by omega) C_kinds_of (by omega) hr2 TB rfl hT (show LamD.LamN ["script", "well", "turn", "kinds", "plain", "parts", "listed", "due", "straight", "is_right", "heard", "great", "other", "part", "one", "many"] (defScope st_law) _ from LamD.lamN_by (by decide +kernel)) ⟨fun h => (by cases h), fun _ _ _ h => ⟨"b1", rfl, fun _ _ _ _ _ _ _ => ⟨_, rfl, fun _ => rfl⟩⟩⟩ rfl (.inr ⟨_, _, _, rfl⟩) True.intro rfl (fun A outer s H E f c' => (pa_cons (pe_var (i := 12) rfl (Or.inr (Or.inr rfl)) (by decide) (by decide)) pa_nil))) (da_cons (de_hd [.v 12] HC_is_straight (by omega) C_is_straight (by omega) hr2 TB rfl hT (show LamD.LamN ["script", "well", "turn", "kinds", "plain", "parts", "listed", "due", "straight", "is_right", "heard", "great", "other", "part", "one", "many"] (defScope st_law) _ from LamD.lamN_by (by decide +kernel)) ⟨fun h => (by cases h), fun _ _ _ h => ⟨"c1", rfl, fun _ _ _ _ _ _ _ => ⟨_, rfl, fun _ => rfl⟩⟩⟩ rfl (.inr ⟨_, _, _, rfl⟩) True.intro rfl (fun A outer s H E f c' => (pa_cons (pe_var (i := 12) rfl (Or.inr (Or.inr rfl)) (by decide) (by decide)) pa_nil))) da_nil))))))
  (dss_one (ds_if (dt_bool (dw_or (dt_bool (dw_and (dt_not (dt_val (dv 9)))
   (dw_and1 (dt_cmp (op_ne3 (room200 hr)) o3_ne (dv 10) (de_op op_star o3_star (de_lst (da_cons (de_tup (da_cons de_str (da_cons de_str da_nil))) da_nil)) de_int)))))
   (dw_or1 (dt_bool (dw_and (dt_val (dv 9))
   (dw_and1 (dt_cmp (op_ne3 (room200 hr)) o3_ne (de_lc rfl ndN [("one", 14)] rfl (di_seq (dv 10)) (fun _ _ _ _ _ => (dg_name (i := 14) ndN)) (fun _ _ _ _ _ => (dts_one (dt_not (dt_val (de_isi1 "list" rfl rfl T.z_isinstance rfl T.z_list bv_list (dv 14)))))) (fun _ _ _ _ _ => de_int)) (de_lst da_nil))))))))
  (dss_one (ds_ret de_bl))
  dss_nil))))))))))))))))
  (dss_cons (ds_set (i := 11) ndN (de_lc rfl ndN [("many", 15)] rfl (di_seq (de_tup (da_cons de_int (da_cons de_int (da_cons de_int (da_cons de_int (da_cons de_int da_nil))))))) (fun _ _ _ _ _ => (dg_name (i := 15) ndN)) (fun _ _ _ _ _ => dts_nil) (fun _ _ _ _ _ => (de_c C__law_long hr (by omega) takes0 (da_cons (dv 15) da_nil)))))
  (dss_cons (ds_if (dt_bool (dw_or (dt_cmp (op_ne3 (room200 hr)) o3_ne (de_lc rfl ndN [("one", 14)] rfl (di_seq (dv 11)) (fun _ _ _ _ _ => (dg_name (i := 14) ndN)) (fun _ _ _ _ _ => dts_nil) (fun _ _ _ _ _ => (de_c C_is_statement hr (by omega) takes0 (da_cons (dv 14) da_nil)))) (de_lst (da_cons de_bl (da_cons de_bl (da_cons de_bl (da_cons de_bl (da_cons de_bl da_nil)))))))
   (dw_or1 (dt_cmp (op_ne3 (room200 hr)) o3_ne (de_c C_size_of hr (by omega) tk (da_cons (de_ix ix_seq o3_ix (dv 11) de_int) da_nil)) de_int))))
  (dss_one (ds_ret de_bl))
  dss_nil)
  (dss_one (ds_ret (de_cmp (op_eq3 (room200 hr)) o3_eq (de_lst (da_cons (de_hd [.ix 11 2] HC_parts_of (by omega) C_parts_of (by omega) hr2 TB rfl hT (show LamD.LamN ["script", "well", "turn", "kinds", "plain", "parts", "listed", "due", "straight", "is_right", "heard", "great", "other", "part", "one", "many"] (defScope st_law) _ from LamD.lamN_by (by decide +kernel)) ⟨fun _ _ _ _ _ _ _ => rfl, fun _ _ _ h => by cases h⟩ rfl (.inl rfl) True.intro rfl (fun A outer s H E f c' => (pa_cons (pe_ix ix_seq (pe_var (i := 11) rfl (Or.inr (Or.inr rfl)) (by decide) (by decide)) pe_int (fun _ _ => rfl)) pa_nil))) (da_cons (de_hd [.ix 11 4] HC_size_of (by omega) C_size_of (by omega) hr2 TB rfl hT (show LamD.LamN ["script", "well", "turn", "kinds", "plain", "parts", "listed", "due", "straight", "is_right", "heard", "great", "other", "part", "one", "many"] (defScope st_law) _ from LamD.lamN_by (by decide +kernel)) ⟨fun h => (by cases h), fun _ _ _ h => ⟨"a1", rfl, fun _ _ _ _ _ _ _ => ⟨_, rfl, fun _ => rfl⟩⟩⟩ rfl (.inr ⟨_, _, _, rfl⟩) True.intro rfl (fun A outer s H E f c' => (pa_cons (pe_ix ix_seq (pe_var (i := 11) rfl (Or.inr (Or.inr rfl)) (by decide) (by decide)) pe_int (fun _ _ => rfl)) pa_nil))) da_nil))) (de_op op_star o3_star (de_lst (da_cons (de_tup (da_cons de_str (da_cons de_str da_nil))) da_nil)) de_int))))))))
open X1

abbrev fin (as : List S) (Qd : D → List S → Prop) : EndsD := { nx := fun e => Qd .non (merge as e), rt := fun d e => Qd d (merge as e) }
/-- t keeps the promise sp -/
def Keeps (n N : Nat) (sp : SpD) (t : TDS) : Prop := ∀ (as : List S) (Qd : D → List S → Prop) (Xd : XV → List S → Prop), as.length = n → sp as Qd Xd → t (fun x e => Xd x (merge as e)) (fin as Qd) (startE N as)
/-- a def of one argument, a function of data -/
def spF1 (ok : D → Prop) (f : D → D) : SpD := fun as Qd _ => ∃ d, as = [.d d] ∧ ok d ∧ Qd (f d) [.d d]

/-! ### comprehensions -/
theorem lcN_fm {t : TDE} {tt : TDT} {Q : List D → List S → Prop} (i : Nat) (f : D → D) (p : D → Bool) (e : List S) (he : e[i]? = some .no) : ∀ (xs acc : List D),
    (∀ x ∈ xs, ∀ Q' : Bool → List S → Prop, Q' (p x) (e.set i (.d x)) → tt XF (e.set i (.d x)) Q') →
    (∀ x ∈ xs, p x = true → ∀ Q' : R → List S → Prop, Q' (.d (f x)) (e.set i (.d x)) → t XF (e.set i (.d x)) Q') → acc.length + xs.length ≤ 1000000 → Q (acc ++ (xs.filter p).map f) e →
    lcN (dgName i) tt (bdE t) [i] Q xs acc e
  | [], acc, _, _, _, h => by simpa [lcN] using h
  | x :: r, acc, ht, hb, hl, h => by
    have hi := (List.getElem?_eq_some_iff.mp he).1
    have hw : wipeE (e.set i (.d x)) [i] = e := by
      simp only [wipeE, List.set_set]
      apply List.ext_getElem?
      intro j
      by_cases z : i = j
      · subst z; rw [List.getElem?_set_self hi, he]
      · rw [List.getElem?_set_ne z]
    have hok : okV (e.set i (.d x)) [i] := fun v hv t q => by
      simp at hv; subst hv
      rw [List.getElem?_set_self hi] at q; cases q; rfl
    unfold lcN
    refine ⟨⟨.no, he, rfl⟩, ht x (by simp) _ ?_⟩
    simp only [List.length_cons] at hl
    cases hp : p x with
    | true =>
      rw [if_pos rfl]
      refine hb x (by simp) hp _ ⟨f x, rfl, by omega, hok, ?_⟩
      simp only [fz]
      rw [hw]
      refine lcN_fm i f p e he r _ (fun y hy => ht y (by simp [hy])) (fun y hy => hb y (by simp [hy])) (by simp; omega) ?_
      simpa [List.filter_cons, hp] using h
    | false =>
      rw [if_neg Bool.false_ne_true]
      refine ⟨hok, ?_⟩
      rw [hw]
      exact lcN_fm i f p e he r _ (fun y hy => ht y (by simp [hy])) (fun y hy => hb y (by simp [hy])) (by omega) (by simpa [List.filter_cons, hp] using h)
theorem lcN_map {t : TDE} {Q : List D → List S → Prop} (i : Nat) (f : D → D) (e : List S) (he : e[i]? = some .no) (xs : List D)
    (hb : ∀ x ∈ xs, ∀ Q' : R → List S → Prop, Q' (.d (f x)) (e.set i (.d x)) → t XF (e.set i (.d x)) Q') (hl : xs.length ≤ 1000000) (h : Q (xs.map f) e) :
    lcN (dgName i) dYes (bdE t) [i] Q xs [] e := by
  refine lcN_fm i f (fun _ => true) e he xs [] (fun x _ Q' q => q) (fun x hx _ => hb x hx) (by simpa using hl) ?_
  rw [List.filter_eq_self.mpr (by simp), List.nil_append]
  exact h
theorem bls_map (g : D → Bool) : ∀ xs : List D, blsOf (xs.map fun x => D.bl (g x)) = some (xs.map g)
  | [] => rfl
  | x :: r => by simp only [List.map_cons, blsOf, bls_map g r, Option.map_some]

theorem okV1 {e : List S} {i : Nat} {s : S} (h : e[i]? = some s) (o : s.own = false) : okV e [i] := fun v hv t q => by
  simp at hv; subst hv
  rw [h] at q; cases q; exact o
/-! ### checks -/
def isRow : D → Bool
  | .lst _ => true
  | .tup _ => true
  | _ => false
abbrev sp_is_row : SpD := spF1 (fun d => d.isIns = false) fun d => .bl (isRow d)
theorem k_is_row : Keeps 1 1 sp_is_row t_is_row := by
  rintro as Qd Xd - ⟨d, rfl, h1, h2⟩
  unfold t_is_row
  cases d <;> simp [dRet, dRetN, dIfS, dSeq, dNext, dCont, dBreak, dDrop, dAndV, dOrV, dNotV, dNot, dB, dAnd, dOr, dUn, dBin, dC, dVar, dCons, dNil, dCall, dCallR, dRef, dTup, dLst, dIf, dSet, dAsg, dPar, dgName, dgTup, dgCons, dgNil, dApp, dExt, dPop, dIxK, dInK, dNotInK, dStar, dStarK, dKw, dSl, dPart, dNoPart, dDict0, dWix, dWset, diSeq, diRng1, dChain, r31Isi, r31Len, r31All, r31Any, r31Int, r31Abs, r31List, r31Tuple, r31ReprB, r31Neg, r3Ix, r3I, r3Is, r3IsNot, r3IsN, r3NotN, r3IsB, r3NotB, dats, see, fz, free, asg, merge, startE, S.fixd, S.own, D.isNon, D.isIns, D.len, D.items, isTy, isRow] at h1 h2 ⊢ <;> exact h2
def wordsD : List D := match c_WORDS with
  | .tup l => l
  | _ => []
def lettersS : Str := match c_LETTERS with
  | .str l => l
  | _ => ""
def isLetter : D → Bool
  | .str z => inStr z lettersS
  | _ => false
def isName : D → Bool
  | .str z => decide (1 ≤ z.length) && decide (z.length ≤ 8) && !(inD (.str z) wordsD) && (chars z).all isLetter
  | _ => false
abbrev sp_is_name : SpD := spF1 (fun d => d.isIns = false ∧ ∀ z, d = .str z → z.length ≤ 1000000) fun d => .bl (isName d)
theorem words_flat : wordsD.all D.flat0 = true := by decide
theorem c_words : c_WORDS = .tup wordsD := rfl
theorem c_letters : c_LETTERS = .str lettersS := rfl
theorem c_signs : c_MOST_SIGNS = .int 8 := rfl
theorem k_is_name : Keeps 1 2 sp_is_name t_is_name := by
  rintro as Qd Xd - ⟨d, rfl, ⟨h1, h0⟩, h2⟩
  unfold t_is_name
  have hm := mil
  cases d with
  | str z =>
    have hz := h0 z rfl
    simp [dRet, dRetN, dIfS, dSeq, dNext, dCont, dBreak, dDrop, dAndV, dOrV, dNotV, dNot, dB, dAnd, dOr, dUn, dBin, dC, dVar, dCons, dNil, dCall, dCallR, dRef, dTup, dLst, dIf, dSet, dAsg, dPar, dgName, dgTup, dgCons, dgNil, dApp, dExt, dPop, dIxK, dInK, dNotInK, dStar, dStarK, dKw, dSl, dPart, dNoPart, dDict0, dWix, dWset, diSeq, diRng1, dChain, r31Isi, r31Len, r31All, r31Any, r31Int, r31Abs, r31List, r31Tuple, r31ReprB, r31Neg, r3Ix, r3I, r3Is, r3IsNot, r3IsN, r3NotN, r3IsB, r3NotB, dats, see, fz, free, asg, merge, startE, S.fixd, S.own, D.isNon, D.isIns, D.len, D.items, isTy, isName, c_words, c_letters, c_signs, r3In] at h2 ⊢
    refine ⟨by omega, ?_⟩
    by_cases q1 : z.length < 1
    · exact .inl ⟨by omega, by simpa [show ¬ (1 ≤ z.length) by omega] using h2⟩
    refine .inr ⟨by omega, ?_⟩
    by_cases q2 : 8 < z.length
    · exact .inl ⟨by omega, by simpa [show ¬ (z.length ≤ 8) by omega] using h2⟩
    refine .inr ⟨by omega, rfl, fun x hx => List.all_eq_true.mp words_flat x hx, ?_⟩
    cases q3 : inD (D.str z) wordsD with
    | true => simpa [q3] using h2
    | false =>
      rw [if_neg Bool.false_ne_true]
      refine ⟨_, _, rfl, rfl, okV1 rfl rfl, lcN_map 1 (fun x => .bl (isLetter x)) _ rfl _ (fun x hx Q' q => ?_) (by simp [chars]; show z.cps.size ≤ _; have : z.length = z.cps.size := rfl; omega) ⟨_, rfl, _, rfl, _, bls_map _ _, ?_⟩⟩
      · simp only [chars, List.mem_map] at hx
        obtain ⟨c, _, rfl⟩ := hx
        refine ⟨_, _, rfl, rfl, .inl ⟨_, _, rfl, rfl, ?_⟩⟩
        exact q
      · have e1 : decide (1 ≤ z.length) = true := by simp; omega
        have e2 : decide (z.length ≤ 8) = true := by simp; omega
        rw [e1, e2, q3] at h2
        rw [List.all_map]
        exact h2
  | _ => simp [dRet, dRetN, dIfS, dSeq, dNext, dCont, dBreak, dDrop, dAndV, dOrV, dNotV, dNot, dB, dAnd, dOr, dUn, dBin, dC, dVar, dCons, dNil, dCall, dCallR, dRef, dTup, dLst, dIf, dSet, dAsg, dPar, dgName, dgTup, dgCons, dgNil, dApp, dExt, dPop, dIxK, dInK, dNotInK, dStar, dStarK, dKw, dSl, dPart, dNoPart, dDict0, dWix, dWset, diSeq, diRng1, dChain, r31Isi, r31Len, r31All, r31Any, r31Int, r31Abs, r31List, r31Tuple, r31ReprB, r31Neg, r3Ix, r3I, r3Is, r3IsNot, r3IsN, r3NotN, r3IsB, r3NotB, dats, see, fz, free, asg, merge, startE, S.fixd, S.own, D.isNon, D.isIns, D.len, D.items, isTy, isName] at h1 h2 ⊢ <;> exact h2

/-! ### sizes -/
mutual
def nodes : D → Nat
  | .str z => z.length + 1
  | .lst xs => nodesL xs + 1
  | .tup xs => nodesL xs + 1
  | .dct _ xs => nodesL xs + 1
  | .ins _ _ xs => nodesL xs + 1
  | _ => 1
def nodesL : List D → Nat
  | [] => 0
  | x :: r => nodes x + nodesL r
end
theorem nodes_pos : ∀ d : D, 1 ≤ nodes d := fun d => by cases d <;> simp [nodes]
theorem len_nodesL : ∀ xs : List D, xs.length ≤ nodesL xs
  | [] => Nat.le_refl _
  | x :: r => by simp only [List.length_cons, nodesL]; have := nodes_pos x; have := len_nodesL r; omega
theorem nodesL_app : ∀ xs ys : List D, nodesL (xs ++ ys) = nodesL xs + nodesL ys
  | [], _ => by simp [nodesL]
  | x :: r, ys => by simp only [List.cons_append, nodesL, nodesL_app r ys]; omega
theorem nodesL_rev : ∀ xs : List D, nodesL xs.reverse = nodesL xs
  | [] => rfl
  | x :: r => by simp only [List.reverse_cons, nodesL_app, nodesL, nodesL_rev r]; omega
theorem nodes_mem : ∀ {xs : List D} {x : D}, x ∈ xs → nodes x ≤ nodesL xs
  | y :: r, x, h => by
    simp only [nodesL]
    rcases List.mem_cons.mp h with rfl | q
    · omega
    · have := nodes_mem q; omega
theorem depth_mem : ∀ {xs : List D} {x : D}, x ∈ xs → x.depth ≤ D.depths xs
  | y :: r, x, h => by
    simp only [D.depths]
    rcases List.mem_cons.mp h with rfl | q
    · omega
    · have := depth_mem q; omega
theorem noi_mem : ∀ {xs : List D} {x : D}, D.nois xs = true → x ∈ xs → x.noi = true
  | y :: r, x, n, h => by
    simp only [D.nois, Bool.and_eq_true] at n
    rcases List.mem_cons.mp h with rfl | q
    · exact n.1
    · exact noi_mem n.2 q
theorem nois_of : ∀ {xs : List D}, (∀ x ∈ xs, x.noi = true) → D.nois xs = true
  | [], _ => rfl
  | y :: r, h => by
    simp only [D.nois, Bool.and_eq_true]
    exact ⟨h y (by simp), nois_of fun x hx => h x (by simp [hx])⟩
theorem noi_isIns {d : D} (h : d.noi = true) : d.isIns = false := by cases d <;> first | rfl | (simp [D.noi] at h)
structure okD (d : D) : Prop where
  noi : d.noi = true
  few : nodes d ≤ 100000
  low : d.depth ≤ 150
theorem okD.lst {xs : List D} (h : okD (.lst xs)) {x : D} (hx : x ∈ xs) : okD x := ⟨noi_mem (by simpa [D.noi] using h.noi) hx, by have := nodes_mem hx; have := h.few; simp only [nodes] at this; omega, by have := depth_mem hx; have := h.low; simp only [D.depth] at this; omega⟩
theorem okD.tup {xs : List D} (h : okD (.tup xs)) {x : D} (hx : x ∈ xs) : okD x := ⟨noi_mem (by simpa [D.noi] using h.noi) hx, by have := nodes_mem hx; have := h.few; simp only [nodes] at this; omega, by have := depth_mem hx; have := h.low; simp only [D.depth] at this; omega⟩
theorem okD.str {z : Str} (h : okD (.str z)) : z.length ≤ 1000000 := by have := h.few; simp only [nodes] at this; omega
theorem ne_nil {xs : List D} {Q : R → Prop} (n : D.nois xs = true) (h : Q (.d (.bl (!xs.isEmpty)))) : r3Ne (.lst xs) (.lst []) Q := by
  refine ⟨by simp [eqOk, D.noi, D.nois, D.flat, D.flats, D.isDct, n, D.depth, D.depths], ?_⟩
  cases xs with
  | nil => simpa [D.eqv, D.eqvs] using h
  | cons a r => simpa [D.eqv, D.eqvs] using h

/-! ### fixed -/
mutual
def fxD : D → D
  | .lst xs => .tup (fxDs xs)
  | .tup xs => .tup (fxDs xs)
  | d => d
def fxDs : List D → List D
  | [] => []
  | x :: r => fxD x :: fxDs r
end
abbrev sp_fixed : SpD := spF1 okD fxD

/-! ### statements -/
def joinsD : List D := match c_JOINS with
  | .tup l => l
  | _ => []
def isYN (z : Str) : Bool := inD (.str z) [c_YES, c_NO]
def isJoin (z : Str) : Bool := inD (.str z) joinsD
theorem c_joins : c_JOINS = .tup joinsD := rfl
theorem joins_flat : joinsD.all D.flat0 = true := by decide
theorem c_parts : c_MOST_PARTS = .int 24 := rfl
def stLoop : Nat → List D → Bool
  | _, [] => true
  | 0, _ :: _ => false
  | n + 1, .str z :: r => (isYN z || isName (.str z)) && stLoop n r
  | n + 1, .tup [.str j, a, b] :: r => isJoin j && stLoop n (a :: b :: r)
  | n + 1, .lst [.str j, a, b] :: r => isJoin j && stLoop n (a :: b :: r)
  | _ + 1, _ :: _ => false
def stIn (d : D) : D := if stLoop 24 [d] = true then fxD d else .non
abbrev sp_statement_in : SpD := spF1 okD stIn
theorem k_statement_in : Keeps 1 4 sp_statement_in (t_statement_in sp_is_name sp_fixed) := by
  rintro as Qd Xd - ⟨d, rfl, h1, h2⟩
  have loop : ∀ (n : Nat) (st : List D) (s3 : S) (De : EndsD), n ≤ 24 → s3.fixd = false → (∀ x ∈ st, okD x) → nodesL st ≤ 100000 → (stLoop n st = true → ∀ e, (∃ m s, e = [.d d, .ol [], .d (.int m), s]) → De.nx e) → (stLoop n st = false → ∀ e, (∃ s t u, e = [.d d, s, t, u]) → De.rt .non e) →
      whileN (w1_statement_in sp_is_name sp_fixed) (b1_statement_in sp_is_name sp_fixed) (fun x e => Xd x (merge [.d d] e)) De (n + 2) [.d d, .ol st.reverse, .d (.int (24 - n : Int)), s3] := by
    intro n
    induction n with
    | zero =>
      intro st s3 De hn hs hok hfew hy hno
      have hnois : D.nois st.reverse = true := nois_of fun x hx => (hok x (by simpa using hx)).noi
      refine x_while ?_
      unfold w1_statement_in b1_statement_in
      walk_at "l3"
      refine ne_nil hnois ?_
      walk_at "l3"
      cases st with
      | nil =>
        rw [if_neg (by simp)]
        exact hy rfl _ ⟨_, _, rfl⟩
      | cons x r =>
        rw [if_pos (by simp)]
        walk_at "l3"
        refine x_pop rfl List.reverse_cons ?_
        simp only [c_parts]
        walk_at "l3"
        exact hno rfl _ ⟨_, _, _, rfl⟩
    | succ n ih =>
      intro st s3 De hn hs hok hfew hy hno
      have hnois : D.nois st.reverse = true := nois_of fun x hx => (hok x (by simpa using hx)).noi
      refine x_while ?_
      unfold w1_statement_in b1_statement_in
      walk_at "l3"
      refine ne_nil hnois ?_
      walk_at "l3"
      cases st with
      | nil =>
        rw [if_neg (by simp)]
        exact hy rfl _ ⟨_, _, rfl⟩
      | cons x r =>
        have hx := hok x (by simp)
        have hr : ∀ y ∈ r, okD y := fun y hy => hok y (by simp [hy])
        have hfr : nodesL r ≤ 100000 := by simp only [nodesL] at hfew; omega
        have hins := noi_isIns hx.noi
        rw [if_pos (by simp)]
        walk_at "l3"
        refine x_pop rfl List.reverse_cons ?_
        simp only [c_parts, c_joins]
        walk_at "l3"
        have e24 : (24 - ((n + 1 : Nat) : Int) + 1) = 24 - (n : Int) := by omega
        rw [e24, if_neg (by simp; omega)]
        walk_at "l3"
        have rows : ∀ xs : List D, (x = .tup xs ∨ x = .lst xs) → xs.length ≤ 1000000 := fun xs h => by
          have h1 := len_nodesL xs
          have h2 := hx.few
          rcases h with rfl | rfl <;> simp only [nodes] at h2 <;> omega
        cases x with
        | str z =>
          walk_at "l3"
          refine x_notin_t rfl rfl ?_
          walk_at "l3"
          cases hYN : inD (.str z) [c_YES, c_NO] with
          | true =>
            walk_at "l3"
            exact ih r _ De (by omega) rfl hr hfr (fun h => hy (by simp [stLoop, isYN, hYN, h])) (fun h => hno (by simp [stLoop, isYN, hYN, h]))
          | false =>
            walk_at "l3"
            refine ⟨_, rfl, ⟨rfl, fun w h => by cases h; exact hx.str⟩, ?_⟩
            walk_at "l3"
            cases hN : isName (.str z) with
            | true =>
              walk_at "l3"
              exact ih r _ De (by omega) rfl hr hfr (fun h => hy (by simp [stLoop, isYN, hYN, hN, h])) (fun h => hno (by simp [stLoop, isYN, hYN, hN, h]))
            | false =>
              walk_at "l3"
              exact hno (by simp [stLoop, isYN, hYN, hN]) _ ⟨_, _, _, rfl⟩
        | tup xs =>
          have hl := rows xs (.inl rfl)
          walk_at "l3"
          rcases xs with _ | ⟨a, _ | ⟨b, _ | ⟨c, _ | ⟨d', q⟩⟩⟩⟩
          · walk_at "l3"
            exact hno (by simp [stLoop]) _ ⟨_, _, _, rfl⟩
          · walk_at "l3"
            exact hno (by simp [stLoop]) _ ⟨_, _, _, rfl⟩
          · walk_at "l3"
            exact hno (by simp [stLoop]) _ ⟨_, _, _, rfl⟩
          · have ha := hx.tup (x := a) (by simp)
            have hb := hx.tup (x := b) (by simp)
            have hc := hx.tup (x := c) (by simp)
            have hai := noi_isIns ha.noi
            walk_at "l3"
            cases a with
            | str j =>
              walk_at "l3"
              refine x_in_t rfl joins_flat ?_
              walk_at "l3"
              cases hj : inD (.str j) joinsD with
              | true =>
                have hrl := len_nodesL r
                have hrr : r.reverse.length = r.length := List.length_reverse
                walk_at "l3"
                have e1 : r.reverse ++ [c, b] = (b :: c :: r).reverse := by simp
                rw [e1]
                exact ih (b :: c :: r) _ De (by omega) rfl (fun y hy => by rcases List.mem_cons.mp hy with rfl | hy; exact hb; rcases List.mem_cons.mp hy with rfl | hy; exact hc; exact hr y hy) (by simp only [nodesL, nodes] at hfew ⊢; omega)
                  (fun h => hy (by simp [stLoop, isJoin, hj, h])) (fun h => hno (by simp [stLoop, isJoin, hj, h]))
              | false =>
                walk_at "l3"
                exact hno (by simp [stLoop, isJoin, hj]) _ ⟨_, _, _, rfl⟩
            | ins _ _ _ => cases hai
            | _ =>
              walk_at "l3"
              exact hno (by simp [stLoop]) _ ⟨_, _, _, rfl⟩
          · rw [if_neg (by simp; omega)]
            walk_at "l3"
            exact hno (by simp [stLoop]) _ ⟨_, _, _, rfl⟩
        | lst xs =>
          have hl := rows xs (.inr rfl)
          walk_at "l3"
          rcases xs with _ | ⟨a, _ | ⟨b, _ | ⟨c, _ | ⟨d', q⟩⟩⟩⟩
          · walk_at "l3"
            exact hno (by simp [stLoop]) _ ⟨_, _, _, rfl⟩
          · walk_at "l3"
            exact hno (by simp [stLoop]) _ ⟨_, _, _, rfl⟩
          · walk_at "l3"
            exact hno (by simp [stLoop]) _ ⟨_, _, _, rfl⟩
          · have ha := hx.lst (x := a) (by simp)
            have hb := hx.lst (x := b) (by simp)
            have hc := hx.lst (x := c) (by simp)
            have hai := noi_isIns ha.noi
            walk_at "l3"
            cases a with
            | str j =>
              walk_at "l3"
              refine x_in_t rfl joins_flat ?_
              walk_at "l3"
              cases hj : inD (.str j) joinsD with
              | true =>
                have hrl := len_nodesL r
                have hrr : r.reverse.length = r.length := List.length_reverse
                walk_at "l3"
                have e1 : r.reverse ++ [c, b] = (b :: c :: r).reverse := by simp
                rw [e1]
                exact ih (b :: c :: r) _ De (by omega) rfl (fun y hy => by rcases List.mem_cons.mp hy with rfl | hy; exact hb; rcases List.mem_cons.mp hy with rfl | hy; exact hc; exact hr y hy) (by simp only [nodesL, nodes] at hfew ⊢; omega)
                  (fun h => hy (by simp [stLoop, isJoin, hj, h])) (fun h => hno (by simp [stLoop, isJoin, hj, h]))
              | false =>
                walk_at "l3"
                exact hno (by simp [stLoop, isJoin, hj]) _ ⟨_, _, _, rfl⟩
            | ins _ _ _ => cases hai
            | _ =>
              walk_at "l3"
              exact hno (by simp [stLoop]) _ ⟨_, _, _, rfl⟩
          · rw [if_neg (by simp; omega)]
            walk_at "l3"
            exact hno (by simp [stLoop]) _ ⟨_, _, _, rfl⟩
        | ins _ _ _ => cases hins
        | _ =>
          walk_at "l3"
          exact hno (by simp [stLoop]) _ ⟨_, _, _, rfl⟩
  unfold t_statement_in
  walk_at "l3"
  refine x_wh 26 (loop 24 [d] .no _ (by omega) rfl (by simpa using h1) (by have := h1.few; simp [nodesL]; omega) ?_ ?_)
  · rintro hst e ⟨m, s, rfl⟩
    walk_at "l3"
    refine ⟨d, rfl, h1, ?_⟩
    walk_at "l3"
    simpa [stIn, hst] using h2
  · rintro hst e ⟨s, t, u, rfl⟩
    walk_at "l3"
    simpa [stIn, hst] using h2

/-! ### parts -/
def partsL : Nat → List D → List D
  | _, [] => []
  | 0, _ :: _ => []
  | n + 1, .tup [j, a, b] :: r => .tup [j, a, b] :: partsL n (a :: b :: r)
  | n + 1, .lst [j, a, b] :: r => .lst [j, a, b] :: partsL n (a :: b :: r)
  | n + 1, x :: r => x :: partsL n r
/-- what a stack is that statement_in takes -/
theorem st_split {n : Nat} {x : D} {r : List D} (h : stLoop (n + 1) (x :: r) = true) : (∃ z, x = .str z ∧ (isYN z || isName (.str z)) = true ∧ stLoop n r = true) ∨ (∃ j a b, (x = .tup [.str j, a, b] ∨ x = .lst [.str j, a, b]) ∧ isJoin j = true ∧ stLoop n (a :: b :: r) = true) := by
  unfold stLoop at h
  split at h
  · rename_i e; cases e
  · cases h
  · rename_i k z r' e1 e2
    cases e1; cases e2
    rw [Bool.and_eq_true] at h
    exact .inl ⟨z, rfl, h.1, h.2⟩
  · rename_i k j a b r' e1 e2
    cases e1; cases e2
    rw [Bool.and_eq_true] at h
    exact .inr ⟨j, a, b, .inl rfl, h.1, h.2⟩
  · rename_i k j a b r' e1 e2
    cases e1; cases e2
    rw [Bool.and_eq_true] at h
    exact .inr ⟨j, a, b, .inr rfl, h.1, h.2⟩
  · cases h
abbrev sp_parts_in : SpD := spF1 (fun d => okD d ∧ stLoop 24 [d] = true) fun d => .tup (partsL 24 [d])
theorem k_parts_in : Keeps 1 4 sp_parts_in t_parts_in := by
  rintro as Qd Xd - ⟨d, rfl, ⟨h1, h0⟩, h2⟩
  have loop : ∀ (n : Nat) (st acc : List D) (s3 : S) (De : EndsD), s3.fixd = false → (∀ x ∈ st, okD x) → nodesL st ≤ 100000 → acc.length + n ≤ 100 → stLoop n st = true → (∀ e, (∃ s t, e = [.d d, .ol (acc ++ partsL n st), s, t]) → De.nx e) →
      whileN w1_parts_in b1_parts_in (fun x e => Xd x (merge [.d d] e)) De (n + 1) [.d d, .ol acc, .ol st.reverse, s3] := by
    intro n
    induction n with
    | zero =>
      intro st acc s3 De hs hok hfew hacc hst hy
      cases st with
      | cons x r => simp [stLoop] at hst
      | nil =>
        refine x_while ?_
        unfold w1_parts_in b1_parts_in
        walk_at "l3"
        refine ne_nil rfl ?_
        walk_at "l3"
        exact hy _ ⟨.ol [], s3, by simp [partsL]⟩
    | succ n ih =>
      intro st acc s3 De hs hok hfew hacc hst hy
      have hnois : D.nois st.reverse = true := nois_of fun x hx => (hok x (by simpa using hx)).noi
      refine x_while ?_
      unfold w1_parts_in b1_parts_in
      walk_at "l3"
      refine ne_nil hnois ?_
      walk_at "l3"
      cases st with
      | nil =>
        walk_at "l3"
        exact hy _ ⟨.ol [], s3, by simp [partsL]⟩
      | cons x r =>
        have hx := hok x (by simp)
        have hr : ∀ y ∈ r, okD y := fun y hy => hok y (by simp [hy])
        have hfr : nodesL r ≤ 100000 := by simp only [nodesL] at hfew; omega
        have hrl := len_nodesL r
        have hrr : r.reverse.length = r.length := List.length_reverse
        have hins := noi_isIns hx.noi
        rw [if_pos (by simp)]
        walk_at "l3"
        refine x_pop rfl List.reverse_cons ?_
        walk_at "l3"
        rcases st_split hst with ⟨z, rfl, hz, hst'⟩ | ⟨j, a, b, hab, hj, hst'⟩
        · walk_at "l3"
          refine ih r (acc ++ [.str z]) (.d (.str z)) De rfl hr hfr (by simp; omega) hst' ?_
          rintro e ⟨s, t, rfl⟩
          exact hy _ ⟨s, t, by simp [partsL]⟩
        · have e1 : r.reverse ++ [b, a] = (a :: b :: r).reverse := by simp
          rcases hab with rfl | rfl
          · walk_at "l3"
            rw [e1]
            refine ih (a :: b :: r) (acc ++ [.tup [.str j, a, b]]) (.d (.tup [.str j, a, b])) De rfl (fun y hy => by rcases List.mem_cons.mp hy with rfl | hy; exact hx.tup (by simp); rcases List.mem_cons.mp hy with rfl | hy; exact hx.tup (by simp); exact hr y hy) (by simp only [nodesL, nodes] at hfew ⊢; omega) (by simp; omega) hst' ?_
            rintro e ⟨s, t, rfl⟩
            exact hy _ ⟨s, t, by simp [partsL]⟩
          · walk_at "l3"
            rw [e1]
            refine ih (a :: b :: r) (acc ++ [.lst [.str j, a, b]]) (.d (.lst [.str j, a, b])) De rfl (fun y hy => by rcases List.mem_cons.mp hy with rfl | hy; exact hx.lst (by simp); rcases List.mem_cons.mp hy with rfl | hy; exact hx.lst (by simp); exact hr y hy) (by simp only [nodesL, nodes] at hfew ⊢; omega) (by simp; omega) hst' ?_
            rintro e ⟨s, t, rfl⟩
            exact hy _ ⟨s, t, by simp [partsL]⟩
  unfold t_parts_in
  walk_at "l3"
  refine x_wh 25 (loop 24 [d] [] .no _ rfl (by simpa using h1) (by have := h1.few; simp [nodesL]; omega) (by simp) h0 ?_)
  rintro e ⟨s, t, rfl⟩
  walk_at "l3"
  refine ⟨_, .inl rfl, ?_⟩
  walk_at "l3"
  exact h2

theorem parts_ok : ∀ (n : Nat) (st : List D), stLoop n st = true → (∀ x ∈ st, okD x) → ∀ x ∈ partsL n st, okD x ∧ ((∃ z, x = .str z) ∨ ∃ j a b, x = .tup [.str j, a, b] ∨ x = .lst [.str j, a, b])
  | 0, [], _, _, x, hx => by simp [partsL] at hx
  | n + 1, [], _, _, x, hx => by simp [partsL] at hx
  | 0, y :: r, h, _, _, _ => by simp [stLoop] at h
  | n + 1, y :: r, h, hok, x, hx => by
    have hy := hok y (by simp)
    have hr : ∀ z ∈ r, okD z := fun z hz => hok z (by simp [hz])
    rcases st_split h with ⟨z, rfl, hz, h'⟩ | ⟨j, a, b, hab, hj, h'⟩
    · simp only [partsL, List.mem_cons] at hx
      rcases hx with rfl | hx
      · exact ⟨hy, .inl ⟨z, rfl⟩⟩
      · exact parts_ok n r h' hr x hx
    · rcases hab with rfl | rfl
      · simp only [partsL, List.mem_cons] at hx
        rcases hx with rfl | hx
        · exact ⟨hy, .inr ⟨j, a, b, .inl rfl⟩⟩
        · exact parts_ok n _ h' (fun y' hy' => by rcases List.mem_cons.mp hy' with rfl | hy'; exact hy.tup (by simp); rcases List.mem_cons.mp hy' with rfl | hy'; exact hy.tup (by simp); exact hr y' hy') x hx
      · simp only [partsL, List.mem_cons] at hx
        rcases hx with rfl | hx
        · exact ⟨hy, .inr ⟨j, a, b, .inr rfl⟩⟩
        · exact parts_ok n _ h' (fun y' hy' => by rcases List.mem_cons.mp hy' with rfl | hy'; exact hy.lst (by simp); rcases List.mem_cons.mp hy' with rfl | hy'; exact hy.lst (by simp); exact hr y' hy') x hx
theorem parts_len : ∀ (n : Nat) (st : List D), (partsL n st).length ≤ n
  | 0, [] => by simp [partsL]
  | n + 1, [] => by simp [partsL]
  | 0, _ :: _ => by simp [partsL]
  | n + 1, x :: r => by
    unfold partsL
    split
    · simp
    · simp
    · rename_i k j a b r' e1 e2
      cases e1
      have := parts_len n (a :: b :: r')
      simp; omega
    · rename_i k j a b r' e1 e2
      cases e1
      have := parts_len n (a :: b :: r')
      simp; omega
    · rename_i k y r' _ _ e1 e2
      cases e1
      have := parts_len n r'
      simp; omega
theorem eqOk_s {x : D} {z : Str} (h : x.noi = true) : eqOk x (.str z) = true := by simp [eqOk, h, D.flat, D.depth, show (D.str z).noi = true from rfl]
def noOr (x : D) : Bool := D.eqv x c_NO || (match x with
  | .tup (a :: _) => D.eqv a c_OR
  | .lst (a :: _) => D.eqv a c_OR
  | _ => false)
def isPlain (d : D) : Bool := !(partsL 24 [d]).any noOr
abbrev sp_is_plain : SpD := spF1 (fun d => okD d ∧ stLoop 24 [d] = true) fun d => .bl (isPlain d)
theorem k_is_plain : Keeps 1 2 sp_is_plain (t_is_plain sp_parts_in) := by
  rintro as Qd Xd - ⟨d, rfl, ⟨h1, h0⟩, h2⟩
  unfold t_is_plain
  walk_at "l3"
  show dLc _ _ _ _ _ _ _ _
  unfold dLc
  walk_at "l3"
  refine ⟨d, rfl, ⟨h1, h0⟩, ?_⟩
  walk_at "l3"
  have hp := parts_ok 24 [d] h0 (by simpa using h1)
  refine ⟨okV1 rfl rfl, lcN_map 1 (fun x => .bl (noOr x)) _ rfl _ (fun x hx Q' q => ?_) (by have := parts_len 24 [d]; omega) ?_⟩
  · obtain ⟨hx1, hx2⟩ := hp x hx
    rcases hx2 with ⟨z, rfl⟩ | ⟨j, a, b, rfl | rfl⟩
    · walk_at "l3"
      refine x_eq rfl ?_
      walk_at "l3"
      cases hz : D.eqv (.str z) c_NO with
      | true =>
        walk_at "l3"
        simpa [noOr, hz] using q
      | false =>
        walk_at "l3"
        simpa [noOr, hz] using q
    · walk_at "l3"
      refine x_eq (eqOk_s hx1.noi) ?_
      walk_at "l3"
      refine x_eq rfl ?_
      walk_at "l3"
      have e0 : D.eqv (.tup [.str j, a, b]) c_NO = false := by simp [D.eqv, c_NO]
      simpa [noOr, e0] using q
    · walk_at "l3"
      refine x_eq (eqOk_s hx1.noi) ?_
      walk_at "l3"
      refine x_eq rfl ?_
      walk_at "l3"
      have e0 : D.eqv (.lst [.str j, a, b]) c_NO = false := by simp [D.eqv, c_NO]
      simpa [noOr, e0] using q
  · refine ⟨_, rfl, _, _, rfl, bls_map _ _, _, rfl, ?_⟩
    refine ⟨_, rfl, ?_⟩
    rw [List.any_map]
    exact h2

/-! ### closures, told statements, devices -/
mutual
theorem fx_noi : ∀ {d : D}, d.noi = true → (fxD d).noi = true
  | .lst xs, h => by simp only [fxD, D.noi] at h ⊢; exact fxs_noi h
  | .tup xs, h => by simp only [fxD, D.noi] at h ⊢; exact fxs_noi h
  | .non, _ => rfl
  | .bl _, _ => rfl
  | .int _, _ => rfl
  | .str _, _ => rfl
  | .dct _ _, h => h
  | .ins _ _ _, h => h
theorem fxs_noi : ∀ {xs : List D}, D.nois xs = true → D.nois (fxDs xs) = true
  | [], _ => rfl
  | x :: r, h => by
    simp only [D.nois, fxDs, Bool.and_eq_true] at h ⊢
    exact ⟨fx_noi h.1, fxs_noi h.2⟩
end
mutual
theorem fx_depth : ∀ (d : D), (fxD d).depth = d.depth
  | .lst xs => by simp only [fxD, D.depth, fxs_depth xs]
  | .tup xs => by simp only [fxD, D.depth, fxs_depth xs]
  | .non => rfl
  | .bl _ => rfl
  | .int _ => rfl
  | .str _ => rfl
  | .dct _ _ => rfl
  | .ins _ _ _ => rfl
theorem fxs_depth : ∀ (xs : List D), D.depths (fxDs xs) = D.depths xs
  | [] => rfl
  | x :: r => by simp only [fxDs, D.depths, fx_depth x, fxs_depth r]
end
theorem st_flat : ∀ (n : Nat) (st : List D), stLoop n st = true → ∀ x ∈ st, x.flat = true
  | _, [], _, x, hx => by simp at hx
  | 0, y :: r, h, _, _ => by simp [stLoop] at h
  | n + 1, y :: r, h, x, hx => by
    rcases st_split h with ⟨z, rfl, hz, h'⟩ | ⟨j, a, b, hab, hj, h'⟩
    · rcases List.mem_cons.mp hx with rfl | hx
      · rfl
      · exact st_flat n r h' x hx
    · have ih := st_flat n _ h'
      rcases List.mem_cons.mp hx with rfl | hx
      · have ha := ih a (by simp)
        have hb := ih b (by simp)
        rcases hab with rfl | rfl <;> simp [D.flat, D.flats, ha, hb]
      · exact ih x (by simp [hx])
open X1

/-! ### the well -/
theorem nois_ints : ∀ cs : List Int, D.nois (cs.map D.int) = true
  | [] => rfl
  | _ :: r => by simp only [List.map_cons, D.nois, nois_ints r]; rfl
theorem at_ints {cs : List Int} {i : Int} (h0 : 0 ≤ i) (h1 : i < cs.length) : ∃ c, atI (cs.map D.int) i = some (.int c) := by
  have hl : i.toNat < cs.length := by omega
  refine ⟨cs[i.toNat], ?_⟩
  unfold atI ixN
  rw [List.length_map, if_pos h0, if_pos h1]
  simp [List.getElem?_eq_getElem hl]
theorem draw_tail {cs : List Int} {t r many cell : Int} {as : List S} {Qd : D → List S → Prop} {Xd : XD} {s2 : S} (hcs : cs.length ≤ 100) (ht : 0 ≤ t) (ht2 : t < 2 ^ 40) (hm : 2 ≤ many) (hm2 : many ≤ 1000000) (h2 : s2.fixd = false) (hr : 0 ≤ r)
    (hq : ∀ x r' : Int, 0 ≤ x → x < many → 0 ≤ r' → ∀ e, (∃ s3 s4 s5 s6, e = [wl3 cs (t + 1) r', .d (.int many), s3, s4, s5, s6]) → Qd (.int x) (merge as e)) :
    u__law_draw Xd (fin as Qd) [wl3 cs (t + 1) r, .d (.int many), s2, .d (.int t), .d (.int cell), .no] := by
  have hl : (cs.map D.int).length ≤ 1000000 := by rw [List.length_map]; omega
  unfold u__law_draw wl3
  walk_at "l3"
  rw [List.length_map]
  have fin1 : ∀ s3 : S, s3.fixd = false → (dSeq (dSet 5 (dBin r3Mod (dUn r31Int (dBin r3PowG (dBin r3Plus (dBin r3Plus (dBin r3Mod (dUn r31Int (dVar 4)) (dC (.int (2147483549)))) (dBin r3Star (dC (.int (47237))) (dVar 3))) (dC (.int (9037)))) (dC (.int (5))))) (dC (.int (2147483587)))))
  (dSeq (dSet 5 (dBin r3Mod (dUn r31Int (dBin r3PowG (dBin r3Plus (dBin r3Plus (dBin r3Star (dVar 5) (dBin r3Plus (dBin r3Star (dC (.int (2))) (dVar 3)) (dC (.int (6131))))) (dBin r3Star (dBin r3Star (dC (.int (60159))) (dVar 3)) (dVar 3))) (dC (.int (47237)))) (dC (.int (3))))) (dC (.int (2147483629)))))
  (dRet (dBin r3Mod (dUn r31Int (dBin r3Div (dVar 5) (dC (.int (64))))) (dVar 1))))) Xd (fin as Qd) [.wl [.lst (cs.map D.int), .int (t + 1), .int r], .d (.int many), s3, .d (.int t), .d (.int cell), .no] := by
    intro s3 h3
    have p1 : CPowG (cell % 2147483549 + 47237 * t + 9037) 5 := by
      refine ⟨by decide, by decide, ?_⟩
      have : (cell % 2147483549 + 47237 * t + 9037).natAbs < 2 ^ 60 := by omega
      exact Nat.lt_trans this (Nat.pow_lt_pow_right (by decide) (by decide))
    walk_at "l3"
    generalize hb : (cell % 2147483549 + 47237 * t + 9037) ^ (5 : Nat) % 2147483587 = b
    have hb1 : 0 ≤ b := by rw [← hb]; exact Int.emod_nonneg _ (by decide)
    have hb2 : b < 2147483587 := by rw [← hb]; exact Int.emod_lt_of_pos _ (by decide)
    have c1 : CMul b (2 * t + 6131) := .inl ⟨by omega, by omega⟩
    have c2 : CMul (60159 * t) t := .inr ⟨by omega, by omega⟩
    have p2 : CPowG (b * (2 * t + 6131) + 60159 * t * t + 47237) 3 := by
      refine ⟨by decide, by decide, ?_⟩
      have q1 : b * (2 * t + 6131) ≤ 2 ^ 31 * 2 ^ 42 := Int.mul_le_mul (by omega) (by omega) (by omega) (by omega)
      have q2 : 0 ≤ b * (2 * t + 6131) := Int.mul_nonneg hb1 (by omega)
      have q3 : 60159 * t * t ≤ 2 ^ 60 * 2 ^ 40 := Int.mul_le_mul (by omega) (by omega) (by omega) (by omega)
      have q4 : 0 ≤ 60159 * t * t := Int.mul_nonneg (by omega) ht
      have : (b * (2 * t + 6131) + 60159 * t * t + 47237).natAbs < 2 ^ 110 := by omega
      exact Nat.lt_trans this (Nat.pow_lt_pow_right (by decide) (by decide))
    walk_at "l3"
    generalize hd : (b * (2 * t + 6131) + 60159 * t * t + 47237) ^ (3 : Nat) % 2147483629 = d
    exact hq _ r (Int.emod_nonneg _ (by omega)) (Int.emod_lt_of_pos _ (by omega)) hr _ ⟨_, _, _, _, rfl⟩
  by_cases h1 : t < cs.length
  · rw [if_pos (by simpa using h1)]
    walk_at "l3"
    cases hab : decide ((10 : Int) ^ 18 ≤ if cell < 0 then -cell else cell) with
    | false => exact x_iff (fin1 s2 h2)
    | true =>
      have hab' : (1000000000000000000 : Int) ≤ if cell < 0 then -cell else cell := by simpa using hab
      have hX : 0 ≤ 2 * ((if cell < 0 then -cell else cell) - 10 ^ 18) + (if decide (cell < 0) = true then 1 else 0) := by
        have : (10 : Int) ^ 18 = 1000000000000000000 := by decide
        rw [this]
        split <;> omega
      walk_at "l3"
      generalize (2 * ((if cell < 0 then -cell else cell) - 10 ^ 18) + (if decide (cell < 0) = true then 1 else 0) : Int) = x at hX ⊢
      exact hq _ (x / many) (Int.emod_nonneg _ (by omega)) (Int.emod_lt_of_pos _ (by omega)) (Int.ediv_nonneg hX (by omega)) _ ⟨_, _, _, _, rfl⟩
  · rw [if_neg (by simpa using h1)]
    exact x_iff (fin1 s2 h2)
theorem k_draw : Keeps 2 6 spDraw1 t__law_draw := by
  rintro as Qd Xd - ⟨cs, t, r, many, rfl, hcs, ht, ht2, hr, h1, hm, hq⟩
  have hl : (cs.map D.int).length ≤ 1000000 := by rw [List.length_map]; omega
  unfold t__law_draw wl3
  walk_at "l3"
  by_cases m2 : many < 2
  · rw [if_pos (by simpa using m2)]
    walk_at "l3"
    exact hq 0 t r (by omega) (by omega) ht (by omega) hr
  rw [if_neg (by simpa using m2)]
  walk_at "l3"
  by_cases hr0 : 0 < r
  · rw [if_pos (by simpa using hr0)]
    walk_at "l3"
    exact hq (r % many) t (r / many) (Int.emod_nonneg _ (by omega)) (Int.emod_lt_of_pos _ (by omega)) ht (by omega) (Int.ediv_nonneg hr (by omega))
  rw [if_neg (by simpa using hr0)]
  walk_at "l3"
  refine ne_nil (nois_ints cs) ?_
  walk_at "l3"
  have tl : ∀ cell : Int, u__law_draw (fun x e => Xd x (merge [.wl [.lst (cs.map D.int), .int t, .int r], .d (.int many)] e)) (fin [wl3 cs t r, .d (.int many)] Qd) [wl3 cs (t + 1) r, .d (.int many), .no, .d (.int t), .d (.int cell), .no] := fun cell =>
    draw_tail hcs ht ht2 (by omega) hm rfl hr fun x r' k1 k2 k3 e ⟨s3, s4, s5, s6, he⟩ => by
      subst he
      exact hq x (t + 1) r' k1 k2 (by omega) (by omega) k3
  cases cs with
  | nil =>
    walk_at "l3"
    exact tl _
  | cons c cr =>
    rw [if_pos (by simp)]
    walk_at "l3"
    have hlen : (0 : Int) < ((c :: cr).length : Nat) := by simp only [List.length_cons]; omega
    obtain ⟨c', hc'⟩ := at_ints (cs := c :: cr) (i := t % ((c :: cr).length : Nat)) (Int.emod_nonneg _ (by omega)) (Int.emod_lt_of_pos _ hlen)
    rw [List.length_map]
    refine x_mod hlen ?_
    walk_at "l3"
    refine x_ix_l hc' ?_
    walk_at "l3"
    exact tl c'
theorem cut60 (xs : List D) : L3.cutD xs none (some 60) = xs.take 60 := by
  unfold L3.cutD
  have e1 : HT.sIx xs.length 0 none = 0 := rfl
  rw [e1, List.drop_zero, Nat.sub_zero]
  by_cases h : 60 ≤ xs.length
  · have e2 : HT.sIx xs.length xs.length (some 60) = 60 := by
      unfold HT.sIx
      simp
      omega
    rw [e2]
  · have e2 : HT.sIx xs.length xs.length (some 60) = xs.length := by
      unfold HT.sIx
      simp
      omega
    rw [e2, List.take_of_length_le (Nat.le_refl _), List.take_of_length_le (by omega)]
theorem k_well : ∀ (as : List S) (Qd : List D → List S → Prop) (Xd : XV → List S → Prop), as.length = 1 → spWell 60 as Qd Xd → t__law_well (fun x e => Xd x (merge as e)) (startE 2 as) (fun ρ e => ∃ xs, ρ = .tl xs ∧ Qd xs (merge as e)) := by
  rintro as Qd Xd - ⟨ns, rfl, hl, hq⟩
  unfold t__law_well
  walk_at "l3"
  show dLc _ _ _ _ _ _ _ _
  unfold dLc
  walk_at "l3"
  refine ⟨ns.map D.int, rfl, ?_⟩
  walk_at "l3"
  rw [cut60, ← List.map_take]
  have hlt : (ns.take 60).length ≤ 60 := List.length_take_le _ _
  refine ⟨okV1 rfl rfl, lcN_map 1 (fun x => x) _ rfl _ (fun x hx Q' q => ?_) (by rw [List.length_map]; omega) ?_⟩
  · obtain ⟨i, _, rfl⟩ := List.mem_map.mp hx
    walk_at "l3"
    exact q
  · walk_at "l3"
    refine ⟨_, rfl, ?_⟩
    rw [show ((ns.take 60).map D.int).map (fun x => x) = (ns.take 60).map D.int from List.map_id' _]
    exact hq
def spOne : SpD := fun as Qd _ => ∃ (n : Nat) (xs : List D), as = [.well n, .d (.lst xs)] ∧ n < 2 ^ 40 ∧ xs ≠ [] ∧ xs.length ≤ 1000 ∧ ∀ x ∈ xs, Qd x [.well (n + 1), .d (.lst xs)]
theorem k_one : Keeps 2 2 spOne (t__law_one spDraw) := by
  rintro as Qd Xd - ⟨n, xs, rfl, hn, hne, hl, hq⟩
  have hl' : xs.length ≤ 1000000 := by omega
  have hlp : 0 < xs.length := List.length_pos_iff.mpr hne
  unfold t__law_one
  walk_at "l3"
  refine ⟨0, [.d (.int xs.length)], [.int xs.length], .well n, rfl, rfl, rfl, rfl, rfl, n, xs.length, rfl, hn, by omega, by omega, fun x h0 h2 => ?_⟩
  refine ⟨.well (n + 1), [.d (.int xs.length)], rfl, ?_⟩
  have hi : x.toNat < xs.length := by omega
  have ha : atI xs x = some xs[x.toNat] := by
    unfold atI ixN
    rw [if_pos h0, if_pos (by omega)]
    simp [List.getElem?_eq_getElem hi]
  walk_at "l3"
  refine x_ix_l ha ?_
  walk_at "l3"
  exact hq _ (List.getElem_mem hi)
open X1

/-! ### small data -/
structure Sm (n m : Nat) (d : D) : Prop where
  noi : d.noi = true
  flat : d.flat = true
  nod : noD d = true
  lv : (toPy d).leavesShort 20 = true
  shw : (toPy d).showable = true
  dep : (toPy d).depth ≤ n
  dep2 : d.depth ≤ n
  blk : (toPy d).bulk ≤ m
theorem Sm.mono {n m n' m' : Nat} {d : D} (h : Sm n m d) (h1 : n ≤ n') (h2 : m ≤ m') : Sm n' m' d := ⟨h.noi, h.flat, h.nod, h.lv, h.shw, Nat.le_trans h.dep h1, Nat.le_trans h.dep2 h1, Nat.le_trans h.blk h2⟩
def smL : D → Bool
  | .str z => (toPy (.str z)).leavesShort 20 && decide (z.cps.size ≤ 9)
  | .int i => (toPy (.int i)).leavesShort 20 && (toPy (.int i)).showable
  | .non => true
  | _ => false
theorem Sm.leaf {d : D} (h : smL d = true) : Sm 0 9 d := by
  cases d with
  | str z =>
    simp only [smL, Bool.and_eq_true, decide_eq_true_eq] at h
    exact ⟨rfl, rfl, rfl, h.1, rfl, Nat.le_refl _, Nat.le_refl _, h.2⟩
  | int i =>
    simp only [smL, Bool.and_eq_true] at h
    exact ⟨rfl, rfl, rfl, h.1, h.2, Nat.le_refl _, Nat.le_refl _, Nat.zero_le _⟩
  | non => exact ⟨rfl, rfl, rfl, rfl, rfl, Nat.le_refl _, Nat.le_refl _, Nat.zero_le _⟩
  | _ => cases h
theorem Sm.tup2 {n m1 m2 : Nat} {a b : D} (ha : Sm n m1 a) (hb : Sm n m2 b) : Sm (n + 1) (m1 + m2 + 2) (.tup [a, b]) := by
  refine ⟨?_, ?_, ?_, ?_, ?_, ?_, ?_, ?_⟩
  · simp [D.noi, D.nois, ha.noi, hb.noi]
  · simp [D.flat, D.flats, ha.flat, hb.flat]
  · simp [noD, noDs, ha.nod, hb.nod]
  · simp [toPy, toPys, PyData.leavesShort, PyData.leavesShortAll, ha.lv, hb.lv]
  · simp [toPy, toPys, PyData.showable, PyData.showableAll, ha.shw, hb.shw]
  · have := ha.dep; have := hb.dep
    simp only [toPy, toPys, PyData.depth, PyData.depthAll]; omega
  · have := ha.dep2; have := hb.dep2
    simp only [D.depth, D.depths]; omega
  · have := ha.blk; have := hb.blk
    simp only [toPy, toPys, PyData.bulk, PyData.bulkAll]; omega
theorem Sm.tup3 {n m1 m2 m3 : Nat} {a b c : D} (ha : Sm n m1 a) (hb : Sm n m2 b) (hc : Sm n m3 c) : Sm (n + 1) (m1 + m2 + m3 + 3) (.tup [a, b, c]) := by
  refine ⟨?_, ?_, ?_, ?_, ?_, ?_, ?_, ?_⟩
  · simp [D.noi, D.nois, ha.noi, hb.noi, hc.noi]
  · simp [D.flat, D.flats, ha.flat, hb.flat, hc.flat]
  · simp [noD, noDs, ha.nod, hb.nod, hc.nod]
  · simp [toPy, toPys, PyData.leavesShort, PyData.leavesShortAll, ha.lv, hb.lv, hc.lv]
  · simp [toPy, toPys, PyData.showable, PyData.showableAll, ha.shw, hb.shw, hc.shw]
  · have := ha.dep; have := hb.dep; have := hc.dep
    simp only [toPy, toPys, PyData.depth, PyData.depthAll]; omega
  · have := ha.dep2; have := hb.dep2; have := hc.dep2
    simp only [D.depth, D.depths]; omega
  · have := ha.blk; have := hb.blk; have := hc.blk
    simp only [toPy, toPys, PyData.bulk, PyData.bulkAll]; omega
theorem Sm.tup4 {n m1 m2 m3 m4 : Nat} {a b c d : D} (ha : Sm n m1 a) (hb : Sm n m2 b) (hc : Sm n m3 c) (hd : Sm n m4 d) : Sm (n + 1) (m1 + m2 + m3 + m4 + 4) (.tup [a, b, c, d]) := by
  refine ⟨?_, ?_, ?_, ?_, ?_, ?_, ?_, ?_⟩
  · simp [D.noi, D.nois, ha.noi, hb.noi, hc.noi, hd.noi]
  · simp [D.flat, D.flats, ha.flat, hb.flat, hc.flat, hd.flat]
  · simp [noD, noDs, ha.nod, hb.nod, hc.nod, hd.nod]
  · simp [toPy, toPys, PyData.leavesShort, PyData.leavesShortAll, ha.lv, hb.lv, hc.lv, hd.lv]
  · simp [toPy, toPys, PyData.showable, PyData.showableAll, ha.shw, hb.shw, hc.shw, hd.shw]
  · have := ha.dep; have := hb.dep; have := hc.dep; have := hd.dep
    simp only [toPy, toPys, PyData.depth, PyData.depthAll]; omega
  · have := ha.dep2; have := hb.dep2; have := hc.dep2; have := hd.dep2
    simp only [D.depth, D.depths]; omega
  · have := ha.blk; have := hb.blk; have := hc.blk; have := hd.blk
    simp only [toPy, toPys, PyData.bulk, PyData.bulkAll]; omega
theorem Sm.pr {n m : Nat} {d : D} (h : Sm n m d) (h1 : n ≤ 100) (h2 : m ≤ 700000) : PrOk d := ⟨h.nod, h.lv, h.shw, Nat.le_trans h.dep h1, Nat.le_trans h.blk h2⟩
theorem Sm.ne {n m : Nat} {d : D} (h : Sm n m d) (h1 : n ≤ 100) : (eqOk d d && !d.isDct && !d.isDct) = true := by
  have e : d.isDct = false := by
    have := h.nod
    cases d <;> first | rfl | (cases this)
  have := h.dep2
  rw [e]
  unfold eqOk
  rw [h.noi, h.flat]
  simp
  omega
theorem str_sm {z : Str} (h : smL (.str z) = true := by decide +kernel) (n : Nat := 0) : Sm n 9 (.str z) := (Sm.leaf h).mono (Nat.zero_le _) (Nat.le_refl _)

/-! ### statements by their form -/
def isSt : D → Bool
  | .str z => isYN z || isName (.str z)
  | .tup [.str j, a, b] => isJoin j && (isSt a && isSt b)
  | .lst [.str j, a, b] => isJoin j && (isSt a && isSt b)
  | _ => false
termination_by d => sizeOf d
decreasing_by all_goals (simp_wf; omega)
def szS : D → Nat
  | .tup [.str _, a, b] => szS a + szS b + 1
  | .lst [.str _, a, b] => szS a + szS b + 1
  | _ => 1
termination_by d => sizeOf d
decreasing_by all_goals (simp_wf; omega)
def partsD : D → List D
  | .tup [.str j, a, b] => .tup [.str j, a, b] :: (partsD a ++ partsD b)
  | .lst [.str j, a, b] => .lst [.str j, a, b] :: (partsD a ++ partsD b)
  | d => [d]
termination_by d => sizeOf d
decreasing_by all_goals (simp_wf; omega)
theorem isSt_str (z : Str) : isSt (.str z) = (isYN z || isName (.str z)) := by simp only [isSt]
theorem isSt_tup (j : Str) (a b : D) : isSt (.tup [.str j, a, b]) = (isJoin j && (isSt a && isSt b)) := by
  rw [isSt]
theorem isSt_lst (j : Str) (a b : D) : isSt (.lst [.str j, a, b]) = (isJoin j && (isSt a && isSt b)) := by
  rw [isSt]
theorem isSt_cas {d : D} (h : isSt d = true) : (∃ z, d = .str z ∧ (isYN z || isName (.str z)) = true) ∨ ∃ j a b, (d = .tup [.str j, a, b] ∨ d = .lst [.str j, a, b]) ∧ isJoin j = true ∧ isSt a = true ∧ isSt b = true := by
  unfold isSt at h
  split at h
  · exact .inl ⟨_, rfl, h⟩
  · simp only [Bool.and_eq_true] at h
    exact .inr ⟨_, _, _, .inl rfl, h⟩
  · simp only [Bool.and_eq_true] at h
    exact .inr ⟨_, _, _, .inr rfl, h⟩
  · cases h
theorem szS_str (z : Str) : szS (.str z) = 1 := by simp only [szS]
theorem szS_tup (j : Str) (a b : D) : szS (.tup [.str j, a, b]) = szS a + szS b + 1 := by rw [szS]
theorem szS_lst (j : Str) (a b : D) : szS (.lst [.str j, a, b]) = szS a + szS b + 1 := by rw [szS]
theorem szS_pos (d : D) : 1 ≤ szS d := by
  unfold szS
  split <;> omega
theorem partsD_str (z : Str) : partsD (.str z) = [.str z] := by simp only [partsD]
theorem partsD_tup (j : Str) (a b : D) : partsD (.tup [.str j, a, b]) = .tup [.str j, a, b] :: (partsD a ++ partsD b) := by rw [partsD]
theorem partsD_lst (j : Str) (a b : D) : partsD (.lst [.str j, a, b]) = .lst [.str j, a, b] :: (partsD a ++ partsD b) := by rw [partsD]
def szL (st : List D) : Nat := (st.map szS).sum
theorem szL_cons (x : D) (r : List D) : szL (x :: r) = szS x + szL r := by simp [szL]
theorem st_iff : ∀ (n : Nat) (st : List D), stLoop n st = true ↔ (∀ x ∈ st, isSt x = true) ∧ szL st ≤ n
  | 0, [] => by simp [stLoop, szL]
  | n + 1, [] => by simp [stLoop, szL]
  | 0, x :: r => by
    have := szS_pos x
    rw [szL_cons]
    constructor
    · intro h; simp [stLoop] at h
    · intro h; omega
  | n + 1, x :: r => by
    rw [szL_cons]
    constructor
    · intro h
      rcases st_split h with ⟨z, rfl, hz, h'⟩ | ⟨j, a, b, hab, hj, h'⟩
      · obtain ⟨h1, h2⟩ := (st_iff n r).mp h'
        refine ⟨fun y hy => ?_, by rw [szS_str]; omega⟩
        rcases List.mem_cons.mp hy with rfl | hy
        · rw [isSt_str]; exact hz
        · exact h1 y hy
      · obtain ⟨h1, h2⟩ := (st_iff n (a :: b :: r)).mp h'
        rw [szL_cons, szL_cons] at h2
        have ha := h1 a (by simp)
        have hb := h1 b (by simp)
        refine ⟨fun y hy => ?_, ?_⟩
        · rcases List.mem_cons.mp hy with rfl | hy
          · rcases hab with rfl | rfl
            · rw [isSt_tup, hj, ha, hb]; rfl
            · rw [isSt_lst, hj, ha, hb]; rfl
          · exact h1 y (by simp [hy])
        · rcases hab with rfl | rfl
          · rw [szS_tup]; omega
          · rw [szS_lst]; omega
    · rintro ⟨h1, h2⟩
      have hx := h1 x (by simp)
      have hr : ∀ y ∈ r, isSt y = true := fun y hy => h1 y (by simp [hy])
      rcases isSt_cas hx with ⟨z, rfl, hz⟩ | ⟨j, a, b, hab, hj, ha, hb⟩
      · rw [szS_str] at h2
        simp only [stLoop, hz, Bool.true_and]
        exact (st_iff n r).mpr ⟨hr, by omega⟩
      · have q : szS x = szS a + szS b + 1 := by
          rcases hab with rfl | rfl
          · exact szS_tup ..
          · exact szS_lst ..
        have k : stLoop n (a :: b :: r) = true := (st_iff n (a :: b :: r)).mpr ⟨fun y hy => by
          rcases List.mem_cons.mp hy with rfl | hy
          · exact ha
          · rcases List.mem_cons.mp hy with rfl | hy
            · exact hb
            · exact hr y hy, by rw [szL_cons, szL_cons]; omega⟩
        rcases hab with rfl | rfl <;> simp only [stLoop, hj, k] <;> rfl
theorem st24 (d : D) : stLoop 24 [d] = (isSt d && decide (szS d < 25)) := by
  have h := st_iff 24 [d]
  rw [Bool.eq_iff_iff, h]
  simp [szL]
  intro _
  omega
theorem parts_eq : ∀ (n : Nat) (st : List D), stLoop n st = true → partsL n st = (st.map partsD).flatten
  | 0, [], _ => by simp [partsL]
  | n + 1, [], _ => by simp [partsL]
  | 0, x :: r, h => by simp [stLoop] at h
  | n + 1, x :: r, h => by
    rcases st_split h with ⟨z, rfl, hz, h'⟩ | ⟨j, a, b, hab, hj, h'⟩
    · simp only [partsL, parts_eq n r h', List.map_cons, List.flatten_cons, partsD_str]
      rfl
    · rcases hab with rfl | rfl
      · simp only [partsL, parts_eq n _ h', List.map_cons, List.flatten_cons, partsD_tup, List.cons_append, List.append_assoc]
      · simp only [partsL, parts_eq n _ h', List.map_cons, List.flatten_cons, partsD_lst, List.cons_append, List.append_assoc]
theorem parts24 {d : D} (h : stLoop 24 [d] = true) : partsL 24 [d] = partsD d := by
  rw [parts_eq 24 [d] h]
  simp
/-! ### lists for tuples -/
mutual
def dpD : D → D
  | .lst xs => .lst (dpDs xs)
  | .tup xs => .lst (dpDs xs)
  | d => d
def dpDs : List D → List D
  | [] => []
  | x :: r => dpD x :: dpDs r
end
mutual
theorem fx_dp : ∀ d : D, fxD (dpD d) = fxD d
  | .lst xs => by simp only [dpD, fxD, fxs_dps xs]
  | .tup xs => by simp only [dpD, fxD, fxs_dps xs]
  | .non | .bl _ | .int _ | .str _ | .dct _ _ | .ins _ _ _ => rfl
theorem fxs_dps : ∀ xs : List D, fxDs (dpDs xs) = fxDs xs
  | [] => rfl
  | x :: r => by simp only [dpDs, fxDs, fx_dp x, fxs_dps r]
end
mutual
theorem dp_noi : ∀ d : D, d.noi = true → (dpD d).noi = true
  | .lst xs, h => by simp only [dpD, D.noi] at h ⊢; exact dps_noi xs h
  | .tup xs, h => by simp only [dpD, D.noi] at h ⊢; exact dps_noi xs h
  | .non, _ | .bl _, _ | .int _, _ | .str _, _ => rfl
  | .dct _ _, h => h
  | .ins _ _ _, h => h
theorem dps_noi : ∀ xs : List D, D.nois xs = true → D.nois (dpDs xs) = true
  | [], _ => rfl
  | x :: r, h => by
    simp only [D.nois, dpDs, Bool.and_eq_true] at h ⊢
    exact ⟨dp_noi x h.1, dps_noi r h.2⟩
end
mutual
theorem dp_depth : ∀ d : D, (dpD d).depth = d.depth
  | .lst xs => by simp only [dpD, D.depth, dps_depth xs]
  | .tup xs => by simp only [dpD, D.depth, dps_depth xs]
  | .non | .bl _ | .int _ | .str _ | .dct _ _ | .ins _ _ _ => rfl
theorem dps_depth : ∀ xs : List D, D.depths (dpDs xs) = D.depths xs
  | [] => rfl
  | x :: r => by simp only [dpDs, D.depths, dp_depth x, dps_depth r]
end
mutual
theorem dp_nodes : ∀ d : D, nodes (dpD d) = nodes d
  | .lst xs => by simp only [dpD, nodes, dps_nodes xs]
  | .tup xs => by simp only [dpD, nodes, dps_nodes xs]
  | .non | .bl _ | .int _ | .str _ | .dct _ _ | .ins _ _ _ => rfl
theorem dps_nodes : ∀ xs : List D, nodesL (dpDs xs) = nodesL xs
  | [] => rfl
  | x :: r => by simp only [dpDs, nodesL, dp_nodes x, dps_nodes r]
end
mutual
theorem fx_nodes : ∀ d : D, nodes (fxD d) = nodes d
  | .lst xs => by simp only [fxD, nodes, fxs_nodes xs]
  | .tup xs => by simp only [fxD, nodes, fxs_nodes xs]
  | .non | .bl _ | .int _ | .str _ | .dct _ _ | .ins _ _ _ => rfl
theorem fxs_nodes : ∀ xs : List D, nodesL (fxDs xs) = nodesL xs
  | [] => rfl
  | x :: r => by simp only [fxDs, nodesL, fx_nodes x, fxs_nodes r]
end
theorem fx_ok {d : D} (h : okD d) : okD (fxD d) := ⟨fx_noi h.noi, by rw [fx_nodes]; exact h.few, by rw [fx_depth]; exact h.low⟩
theorem dp_ok {d : D} (h : okD d) : okD (dpD d) := ⟨dp_noi d h.noi, by rw [dp_nodes]; exact h.few, by rw [dp_depth]; exact h.low⟩
theorem fx_tup (j : Str) (a b : D) : fxD (.tup [.str j, a, b]) = .tup [.str j, fxD a, fxD b] := by simp only [fxD, fxDs]
theorem fx_lst (j : Str) (a b : D) : fxD (.lst [.str j, a, b]) = .tup [.str j, fxD a, fxD b] := by simp only [fxD, fxDs]
theorem dp_tup (j : Str) (a b : D) : dpD (.tup [.str j, a, b]) = .lst [.str j, dpD a, dpD b] := by simp only [dpD, dpDs]
/-- fixed keeps statements and their sizes -/
theorem fx_st : ∀ (k : Nat) (d : D), szS d ≤ k → isSt d = true → isSt (fxD d) = true ∧ szS (fxD d) = szS d
  | 0, d, hk, _ => by have := szS_pos d; omega
  | k + 1, d, hk, h => by
    rcases isSt_cas h with ⟨z, rfl, hz⟩ | ⟨j, a, b, hab, hj, ha, hb⟩
    · exact ⟨h, rfl⟩
    · have q : szS d = szS a + szS b + 1 := by
        rcases hab with rfl | rfl
        · exact szS_tup ..
        · exact szS_lst ..
      have e : fxD d = .tup [.str j, fxD a, fxD b] := by
        rcases hab with rfl | rfl
        · exact fx_tup ..
        · exact fx_lst ..
      obtain ⟨a1, a2⟩ := fx_st k a (by omega) ha
      obtain ⟨b1, b2⟩ := fx_st k b (by omega) hb
      rw [e, isSt_tup, szS_tup, hj, a1, a2, b1, b2, q]
      exact ⟨rfl, rfl⟩
theorem fx_st24 {d : D} (h : stLoop 24 [d] = true) : stLoop 24 [fxD d] = true := by
  rw [st24, Bool.and_eq_true, decide_eq_true_eq] at h ⊢
  obtain ⟨q1, q2⟩ := fx_st _ d (Nat.le_refl _) h.1
  exact ⟨q1, by rw [q2]; exact h.2⟩
/-! ### drawn statements -/
def leafB (z : Str) : Bool := (isYN z || isName (.str z)) && smL (.str z) && decide (1 ≤ z.length)
inductive TS : Nat → D → Prop
  | leaf {z : Str} : leafB z = true → TS 1 (.str z)
  | node {w : Str} {a b : D} {i j : Nat} : (w = "and" ∨ w = "or" ∨ w = "gives") → TS i a → TS j b → TS (i + j + 1) (.tup [.str w, a, b])
theorem leafB_o {z : Str} (h : leafB z = true) : (isYN z || isName (.str z)) = true ∧ smL (.str z) = true ∧ 1 ≤ z.length := by
  simp only [leafB, Bool.and_eq_true, decide_eq_true_eq] at h
  exact ⟨h.1.1, h.1.2, h.2⟩
theorem join_w {w : Str} (h : w = "and" ∨ w = "or" ∨ w = "gives") : isJoin w = true := by
  rcases h with rfl | rfl | rfl <;> decide +kernel
theorem TS.st {n : Nat} {d : D} (h : TS n d) : isSt d = true ∧ szS d = n := by
  induction h with
  | leaf hz => exact ⟨by rw [isSt_str]; exact (leafB_o hz).1, szS_str _⟩
  | node hw _ _ ia ib => rw [isSt_tup, szS_tup, join_w hw, ia.1, ia.2, ib.1, ib.2]; exact ⟨rfl, rfl⟩
theorem TS.fx {n : Nat} {d : D} (h : TS n d) : fxD d = d := by
  induction h with
  | leaf hz => rfl
  | node hw _ _ ia ib => rw [fx_tup, ia, ib]
theorem TS.dst {n : Nat} {d : D} (h : TS n d) : isSt (dpD d) = true ∧ szS (dpD d) = n := by
  induction h with
  | leaf hz => exact (TS.leaf hz).st
  | node hw _ _ ia ib => rw [dp_tup, isSt_lst, szS_lst, join_w hw, ia.1, ia.2, ib.1, ib.2]; exact ⟨rfl, rfl⟩
theorem TS.pos {n : Nat} {d : D} (h : TS n d) : 1 ≤ n := by
  have := h.st.2
  have := szS_pos d
  omega
theorem TS.sm {n : Nat} {d : D} (h : TS n d) : Sm n (12 * n) d := by
  induction h with
  | leaf hz => exact (Sm.leaf (leafB_o hz).2.1).mono (Nat.zero_le _) (by omega)
  | @node w a b i j hw _ _ ia ib =>
    have sw : Sm (i + j) 9 (.str w) := by rcases hw with rfl | rfl | rfl <;> exact str_sm (n := i + j)
    have q := Sm.tup3 sw (ia.mono (n' := i + j) (by omega) (Nat.le_refl _)) (ib.mono (n' := i + j) (by omega) (Nat.le_refl _))
    exact q.mono (Nat.le_refl _) (by omega)
theorem w_len {w : Str} (h : w = "and" ∨ w = "or" ∨ w = "gives") : w.length ≤ 5 := by
  rcases h with rfl | rfl | rfl <;> decide
theorem TS.nod {n : Nat} {d : D} (h : TS n d) : nodes d ≤ 20 * n := by
  induction h with
  | @leaf z hz =>
    have q := (leafB_o hz).2.1
    simp only [smL, Bool.and_eq_true, decide_eq_true_eq] at q
    have : z.length = z.cps.size := rfl
    simp only [nodes]
    omega
  | node hw _ _ ia ib =>
    have := w_len hw
    simp only [nodes, nodesL]
    omega
theorem TS.ok {n : Nat} {d : D} (h : TS n d) (hn : n ≤ 100) : okD d := ⟨h.sm.noi, by have := h.nod; omega, by have := h.sm.dep2; omega⟩
theorem TS.parts {n : Nat} {d : D} (h : TS n d) : ∀ x ∈ partsD d, ∃ m, m ≤ n ∧ TS m x := by
  induction h with
  | leaf hz =>
    intro x hx
    rw [partsD_str] at hx
    obtain rfl := List.mem_singleton.mp hx
    exact ⟨1, Nat.le_refl _, .leaf hz⟩
  | node hw ha hb ia ib =>
    intro x hx
    rw [partsD_tup] at hx
    rcases List.mem_cons.mp hx with rfl | hx
    · exact ⟨_, Nat.le_refl _, .node hw ha hb⟩
    · rcases List.mem_append.mp hx with hx | hx
      · obtain ⟨m, h1, h2⟩ := ia x hx; exact ⟨m, by omega, h2⟩
      · obtain ⟨m, h1, h2⟩ := ib x hx; exact ⟨m, by omega, h2⟩
theorem TS.plen {n : Nat} {d : D} (h : TS n d) : (partsD d).length = n := by
  induction h with
  | leaf hz => rw [partsD_str]; rfl
  | node hw _ _ ia ib => rw [partsD_tup, List.length_cons, List.length_append, ia, ib]
theorem TS.cas {n : Nat} {d : D} (h : TS n d) : (∃ z, n = 1 ∧ d = .str z ∧ leafB z = true) ∨ ∃ w a b i j, n = i + j + 1 ∧ d = .tup [.str w, a, b] ∧ (w = "and" ∨ w = "or" ∨ w = "gives") ∧ TS i a ∧ TS j b := by
  cases h with
  | leaf hz => exact .inl ⟨_, rfl, rfl, hz⟩
  | node hw ha hb => exact .inr ⟨_, _, _, _, _, rfl, rfl, hw, ha, hb⟩
/-! ### rows of small data -/
theorem Sms.all {n m : Nat} : ∀ {xs : List D}, (∀ x ∈ xs, Sm n m x) → D.nois xs = true ∧ D.flats xs = true ∧ noDs xs = true ∧ PyData.leavesShortAll 20 (toPys xs) = true ∧ PyData.showableAll (toPys xs) = true ∧
    PyData.depthAll (toPys xs) ≤ n ∧ D.depths xs ≤ n ∧ PyData.bulkAll (toPys xs) ≤ xs.length * (m + 1)
  | [], _ => ⟨rfl, rfl, rfl, rfl, rfl, Nat.zero_le _, Nat.zero_le _, Nat.zero_le _⟩
  | x :: r, h => by
    obtain ⟨h1, h2, h3, h4, h5, h6, h7, h8⟩ := Sms.all (n := n) (m := m) (xs := r) fun y hy => h y (by simp [hy])
    have hx := h x (by simp)
    refine ⟨?_, ?_, ?_, ?_, ?_, ?_, ?_, ?_⟩
    · simp [D.nois, hx.noi, h1]
    · simp [D.flats, hx.flat, h2]
    · simp [noDs, hx.nod, h3]
    · simp [toPys, PyData.leavesShortAll, hx.lv, h4]
    · simp [toPys, PyData.showableAll, hx.shw, h5]
    · have := hx.dep
      simp only [toPys, PyData.depthAll]; omega
    · have := hx.dep2
      simp only [D.depths]; omega
    · have := hx.blk
      have e : (r.length + 1) * (m + 1) = r.length * (m + 1) + (m + 1) := by rw [Nat.add_mul, Nat.one_mul]
      show _ ≤ (r.length + 1) * (m + 1)
      rw [e]
      simp only [toPys, PyData.bulkAll]; omega
theorem Sm.tupN {n m : Nat} {xs : List D} (h : ∀ x ∈ xs, Sm n m x) : Sm (n + 1) (xs.length * (m + 1) + xs.length) (.tup xs) := by
  obtain ⟨h1, h2, h3, h4, h5, h6, h7, h8⟩ := Sms.all h
  have hl : (toPys xs).length = xs.length := by
    have : ∀ l : List D, (toPys l).length = l.length := fun l => by
      induction l with
      | nil => rfl
      | cons x r ih => simp [toPys, ih]
    exact this xs
  refine ⟨by simpa [D.noi] using h1, by simpa [D.flat] using h2, by simpa [noD] using h3, by simpa [toPy, PyData.leavesShort] using h4, by simpa [toPy, PyData.showable] using h5, ?_, ?_, ?_⟩
  · simp only [toPy, PyData.depth]; omega
  · simp only [D.depth]; omega
  · simp only [toPy, PyData.bulk, hl]; omega
open X1

theorem fx_isNon {d : D} (h : stLoop 24 [d] = true) : (fxD d).isNon = false := by
  rcases st_split (n := 23) h with ⟨z, rfl, _⟩ | ⟨j, a, b, rfl | rfl, _⟩ <;> rfl
theorem stIn_isNon (d : D) : (stIn d).isNon = !stLoop 24 [d] := by
  cases hs : stLoop 24 [d] with
  | true =>
    have e : stIn d = fxD d := by unfold stIn; rw [hs]; rfl
    rw [e, fx_isNon hs]; rfl
  | false =>
    have e : stIn d = .non := by unfold stIn; rw [hs]; rfl
    rw [e]; rfl
abbrev sp_is_statement : SpD := spF1 okD fun d => .bl (stLoop 24 [d])
theorem k_is_statement : Keeps 1 1 sp_is_statement (t_is_statement sp_statement_in) := by
  rintro as Qd Xd - ⟨d, rfl, ok, h⟩
  unfold t_is_statement
  walk_at "l3"
  refine ⟨d, rfl, ok, ?_⟩
  walk_at "l3"
  rw [stIn_isNon, Bool.not_not]
  exact h
def spNeed (U : XAd) : SpD := fun as Qd Xd => ∃ d p : D, as = [.d d, .d p] ∧ okD d ∧ (stLoop 24 [d] = true → Qd (fxD d) as) ∧ (stLoop 24 [d] = false → Xd ⟨U.v_BadStatement, ["part"], [p]⟩ as)
theorem k_need (U : XAd) : Keeps 2 3 (spNeed U) (t_need_statement U sp_statement_in) := by
  rintro as Qd Xd - ⟨d, p, rfl, ok, h1, h2⟩
  unfold t_need_statement
  walk_at "l3"
  refine ⟨d, rfl, ok, ?_⟩
  walk_at "l3"
  cases hs : stLoop 24 [d] with
  | true =>
    have e : stIn d = fxD d := by unfold stIn; rw [hs]; rfl
    rw [e, fx_isNon hs]
    walk_at "l3"
    exact h1 hs
  | false =>
    have e : stIn d = .non := by unfold stIn; rw [hs]; rfl
    rw [e]
    walk_at "l3"
    exact h2 hs
/-- what is refused, what is told -/
def spOf1 (U : XAd) (R : D → D → Prop) : SpD := fun as Qd Xd => ∃ d : D, as = [.d d] ∧ okD d ∧ (stLoop 24 [d] = true → ∀ r, R (fxD d) r → Qd r as) ∧ (stLoop 24 [d] = false → Xd ⟨U.v_BadStatement, ["part"], [.str "statement"]⟩ as)
abbrev rParts : D → D → Prop := fun d r => r = .tup (partsL 24 [d])
abbrev rSize : D → D → Prop := fun d r => r = .int (partsL 24 [d]).length
abbrev rPlain : D → D → Prop := fun d r => r = .bl (isPlain d)
theorem k_parts_of (U : XAd) : Keeps 1 1 (spOf1 U rParts) (t_parts_of sp_parts_in (spNeed U)) := by
  rintro as Qd Xd - ⟨d, rfl, ok, h1, h2⟩
  unfold t_parts_of
  walk_at "l3"
  refine ⟨d, _, rfl, ok, fun hs => ?_, fun hs => h2 hs⟩
  walk_at "l3"
  refine ⟨fxD d, rfl, ⟨fx_ok ok, fx_st24 hs⟩, ?_⟩
  walk_at "l3"
  exact h1 hs _ rfl
theorem k_size_of (U : XAd) : Keeps 1 1 (spOf1 U rSize) (t_size_of sp_parts_in (spNeed U)) := by
  rintro as Qd Xd - ⟨d, rfl, ok, h1, h2⟩
  unfold t_size_of
  walk_at "l3"
  refine ⟨d, _, rfl, ok, fun hs => ?_, fun hs => h2 hs⟩
  walk_at "l3"
  refine ⟨fxD d, rfl, ⟨fx_ok ok, fx_st24 hs⟩, ?_⟩
  have hl : (partsL 24 [fxD d]).length ≤ 1000000 := by have := parts_len 24 [fxD d]; omega
  walk_at "l3"
  exact h1 hs _ rfl
theorem k_is_straight (U : XAd) : Keeps 1 1 (spOf1 U rPlain) (t_is_straight sp_is_plain (spNeed U)) := by
  rintro as Qd Xd - ⟨d, rfl, ok, h1, h2⟩
  unfold t_is_straight
  walk_at "l3"
  refine ⟨d, _, rfl, ok, fun hs => ?_, fun hs => h2 hs⟩
  walk_at "l3"
  refine ⟨fxD d, rfl, ⟨fx_ok ok, fx_st24 hs⟩, ?_⟩
  walk_at "l3"
  exact h1 hs _ rfl
theorem okV2 {e : List S} {i j : Nat} {s t : S} (h : e[i]? = some s) (o : s.own = false) (h' : e[j]? = some t) (o' : t.own = false) : okV e [i, j] := fun v hv u q => by
  simp at hv
  rcases hv with rfl | rfl
  · rw [h] at q; cases q; exact o
  · rw [h'] at q; cases q; exact o'
/-! ### kinds -/
def kndO : D → Option Str
  | .str z => if isYN z = true then none else some z
  | _ => none
def knd (ps : List D) : List Str := ps.filterMap kndO
/-- ys: the texts zs, each once, in order -/
def Srt (ys zs : List Str) : Prop := sortedS ys = true ∧ ys.Nodup ∧ ∀ z, z ∈ ys ↔ z ∈ zs
theorem putZ_all : ∀ (zs acc : List Str), acc.Nodup → (zs.foldl putZ acc).Nodup ∧ ∀ z, z ∈ zs.foldl putZ acc ↔ z ∈ acc ∨ z ∈ zs
  | [], acc, h => ⟨h, fun z => by simp⟩
  | y :: r, acc, h => by
    have h1 : (putZ acc y).Nodup := by
      unfold putZ
      split
      · exact h
      · rename_i q
        refine List.nodup_append.mpr ⟨h, by simp, fun a ha b hb => ?_⟩
        have hb' : b = y := by simpa using hb
        rw [hb']
        intro z
        exact q (z ▸ ha)
    obtain ⟨h2, h3⟩ := putZ_all r (putZ acc y) h1
    refine ⟨h2, fun z => ?_⟩
    rw [List.foldl_cons, h3 z]
    unfold putZ
    split
    · rename_i q
      constructor
      · rintro (k | k)
        · exact .inl k
        · exact .inr (List.mem_cons_of_mem _ k)
      · rintro (k | k)
        · exact .inl k
        · rcases List.mem_cons.mp k with e | k
          · exact .inl (e ▸ q)
          · exact .inr k
    · simp only [List.mem_append, List.mem_cons, List.not_mem_nil, or_false]
      constructor
      · rintro ((k | k) | k)
        · exact .inl k
        · exact .inr (.inl k)
        · exact .inr (.inr k)
      · rintro (k | k | k)
        · exact .inl (.inl k)
        · exact .inl (.inr k)
        · exact .inr k
theorem putZ_len (acc : List Str) (z : Str) : (putZ acc z).length ≤ acc.length + 1 := by
  unfold putZ
  split
  · omega
  · simp
theorem putZ_lens : ∀ (zs acc : List Str), (zs.foldl putZ acc).length ≤ acc.length + zs.length
  | [], acc => by simp
  | y :: r, acc => by
    have h1 := putZ_lens r (putZ acc y)
    have h2 := putZ_len acc y
    rw [List.foldl_cons, List.length_cons]
    omega
theorem knd_len (ps : List D) : (knd ps).length ≤ ps.length := List.length_filterMap_le _ _
theorem lcK_run {Q : List Str → List S → Prop} {a0 a1 a2 : S} : ∀ (xs : List D) (acc : List Str), (∀ x ∈ xs, (∃ z, x = .str z) ∨ ∃ j a b, x = .tup [.str j, a, b] ∨ x = .lst [.str j, a, b]) → acc.length + xs.length ≤ 1000 → Q ((knd xs).foldl putZ acc) [a0, a1, a2, .no] →
    lcK (dgName 3) (dAnd (dB (dUn (r31Isi ["str"]) (dVar 3))) (dB (dBin r3NotIn (dVar 3) (dTup (dCons (dC c_YES) (dCons (dC c_NO) dNil)))))) (dVar 3) [3] Q xs acc [a0, a1, a2, .no]
  | [], acc, _, _, h => by simpa [lcK, knd] using h
  | x :: r, acc, hx, hl, h => by
    simp only [List.length_cons] at hl
    have hr : ∀ y ∈ r, (∃ z, y = .str z) ∨ ∃ j a b, y = .tup [.str j, a, b] ∨ y = .lst [.str j, a, b] := fun y hy => hx y (by simp [hy])
    unfold lcK
    walk_at "l3"
    rcases hx x (by simp) with ⟨z, rfl⟩ | ⟨j, a, b, rfl | rfl⟩
    · walk_at "l3"
      refine x_notin_t rfl rfl ?_
      walk_at "l3"
      cases hz : inD (.str z) [c_YES, c_NO] with
      | true =>
        have hz' : isYN z = true := hz
        walk_at "l3"
        refine ⟨okV1 rfl rfl, lcK_run r acc hr (by omega) ?_⟩
        simpa [knd, kndO, hz'] using h
      | false =>
        have hz' : isYN z = false := hz
        walk_at "l3"
        have := putZ_len acc z
        refine ⟨by omega, okV1 rfl rfl, lcK_run r (putZ acc z) hr (by omega) ?_⟩
        simpa [knd, kndO, hz'] using h
    · walk_at "l3"
      refine ⟨okV1 rfl rfl, lcK_run r acc hr (by omega) ?_⟩
      have e : ∀ y : D, kndO y = none → knd (y :: r) = knd r := fun y q => by unfold knd; rw [List.filterMap_cons, q]
      rw [e _ rfl] at h
      exact h
    · walk_at "l3"
      refine ⟨okV1 rfl rfl, lcK_run r acc hr (by omega) ?_⟩
      have e : ∀ y : D, kndO y = none → knd (y :: r) = knd r := fun y q => by unfold knd; rw [List.filterMap_cons, q]
      rw [e _ rfl] at h
      exact h
def spKin : SpD := fun as Qd _ => ∃ d, as = [.d (.lst [d])] ∧ okD d ∧ stLoop 24 [d] = true ∧ ∀ ys, Srt ys (knd (partsL 24 [d])) → Qd (.tup (ys.map D.str)) as
theorem k_kinds_in : Keeps 1 4 spKin (t_kinds_in sp_parts_in) := by
  rintro as Qd Xd - ⟨d, rfl, ok, hs, h⟩
  have pl := parts_len 24 [d]
  have po := parts_ok 24 [d] hs (by simpa using ok)
  unfold t_kinds_in
  walk_at "l3"
  unfold dLc2
  walk_at "l3"
  refine ⟨okV2 rfl rfl rfl rfl, ?_⟩
  unfold lcN
  walk_at "l3"
  unfold bdI
  walk_at "l3"
  refine ⟨d, rfl, ⟨ok, hs⟩, ?_⟩
  walk_at "l3"
  refine ⟨okV1 rfl rfl, lcN_map 3 (fun x => x) _ rfl _ (fun x hx Q' q => ?_) (by omega) ?_⟩
  · walk_at "l3"
    exact q
  · rw [show (partsL 24 [d]).map (fun x => x) = partsL 24 [d] from List.map_id' _]
    refine ⟨okV2 rfl rfl rfl rfl, ?_⟩
    unfold lcN
    walk_at "l3"
    unfold dDcT
    walk_at "l3"
    refine ⟨okV1 rfl rfl, lcK_run _ [] (fun x hx => (po x hx).2) (by simp; omega) ?_⟩
    walk_at "l3"
    have kl := knd_len (partsL 24 [d])
    have pz := putZ_lens (knd (partsL 24 [d])) []
    simp only [List.length_nil, Nat.zero_add] at pz
    obtain ⟨n1, n2⟩ := putZ_all (knd (partsL 24 [d])) [] List.nodup_nil
    refine ⟨_, _, rfl, by omega, fun ys pm hsr => ?_⟩
    walk_at "l3"
    refine ⟨_, .inl rfl, ?_⟩
    walk_at "l3"
    refine h ys ⟨hsr, pm.nodup_iff.mpr n1, fun z => ?_⟩
    rw [pm.mem_iff, n2 z]
    simp
abbrev rKinds : D → D → Prop := fun d r => ∃ ys, Srt ys (knd (partsL 24 [d])) ∧ r = .tup (ys.map D.str)
theorem k_kinds_of (U : XAd) : Keeps 1 1 (spOf1 U rKinds) (t_kinds_of spKin (spNeed U)) := by
  rintro as Qd Xd - ⟨d, rfl, ok, h1, h2⟩
  unfold t_kinds_of
  walk_at "l3"
  refine ⟨d, _, rfl, ok, fun hs => ?_, fun hs => h2 hs⟩
  walk_at "l3"
  refine ⟨fxD d, rfl, fx_ok ok, fx_st24 hs, fun ys hy => ?_⟩
  walk_at "l3"
  exact h1 hs _ ⟨ys, hy, rfl⟩
open X1

theorem x_popAt {Xd : XD} {e : List S} {Q : R → List S → Prop} {i : Nat} {te : TDE} {ys : List D} (h0 : e[i]? = some (.ol ys)) (h : te Xd e fun ρ e1 => ∃ j xs d, see e1 ρ = some (.int j) ∧ e1[i]? = some (.ol xs) ∧ 0 ≤ j ∧ j < 2 ^ 62 ∧ xs[j.toNat]? = some d ∧ Q (.d d) (e1.set i (.ol (xs.eraseIdx j.toNat)))) :
    dPopAt i te Xd e Q := ⟨⟨ys, h0⟩, h⟩
/-! ### rows in a drawn order -/
def spOrder : SpD := fun as Qd _ => ∃ (n : Nat) (xs : List D), as = [.well n, .d (.lst xs)] ∧ n + 100 < 2 ^ 40 ∧ xs.length ≤ 100 ∧ D.nois xs = true ∧ ∀ ys m, ys.length = xs.length → (∀ y ∈ ys, y ∈ xs) → m ≤ n + xs.length → Qd (.lst ys) [.well m, .d (.lst xs)]
theorem k_order : Keeps 2 4 spOrder (t__law_order spDraw) := by
  rintro as Qd Xd - ⟨n, xs, rfl, hn, hl, nx, hq⟩
  have loop : ∀ (k : Nat) (rest found : List D) (m : Nat) (De : EndsD), rest.length = k → found.length + k = xs.length → (∀ y ∈ rest, y ∈ xs) → (∀ y ∈ found, y ∈ xs) → m + k ≤ n + xs.length → (∀ e, (∃ fs m' s2, fs.length = xs.length ∧ (∀ y ∈ fs, y ∈ xs) ∧ m' ≤ n + xs.length ∧ e = [.well m', .d (.lst xs), s2, .ol fs]) → De.nx e) →
      whileN (w1__law_order spDraw) (b1__law_order spDraw) (fun x e => Xd x (merge [.well n, .d (.lst xs)] e)) De (k + 1) [.well m, .d (.lst xs), .ol rest, .ol found] := by
    intro k
    induction k with
    | zero =>
      intro rest found m De hr hf h1 h2 hm hy
      have e0 : rest = [] := List.eq_nil_of_length_eq_zero hr
      subst e0
      refine x_while ?_
      unfold w1__law_order b1__law_order
      walk_at "l3"
      refine ne_nil rfl ?_
      walk_at "l3"
      exact hy _ ⟨found, m, .ol [], by omega, h2, by omega, rfl⟩
    | succ k ih =>
      intro rest found m De hr hf h1 h2 hm hy
      refine x_while ?_
      unfold w1__law_order b1__law_order
      walk_at "l3"
      refine ne_nil (nois_of fun y hy => noi_mem nx (h1 y hy)) ?_
      walk_at "l3"
      cases rest with
      | nil => simp at hr
      | cons x r =>
        rw [if_pos (by simp)]
        walk_at "l3"
        refine x_popAt rfl ?_
        have hl2 : (x :: r).length ≤ 1000000 := by rw [hr]; omega
        walk_at "l3"
        refine ⟨0, [.d (.int (x :: r).length)], [.int (x :: r).length], .well m, rfl, rfl, rfl, rfl, rfl, m, (x :: r).length, rfl, by omega, by rw [hr]; omega, by rw [hr]; omega, fun i i0 i1 => ?_⟩
        refine ⟨.well (m + 1), [.d (.int (x :: r).length)], rfl, ?_⟩
        have hi : i.toNat < (x :: r).length := by omega
        refine ⟨i, x :: r, (x :: r)[i.toNat], rfl, rfl, i0, by omega, List.getElem?_eq_getElem hi, ?_⟩
        have hmem : (x :: r)[i.toNat] ∈ x :: r := List.getElem_mem hi
        generalize (x :: r)[i.toNat] = y at hmem ⊢
        walk_at "l3"
        refine ih _ _ (m + 1) De (by rw [List.length_eraseIdx]; rw [if_pos hi]; omega) (by simp; omega) (fun z hz => h1 z (List.mem_of_mem_eraseIdx hz)) (fun z hz => ?_) (by omega) hy
        rcases List.mem_append.mp hz with hz | hz
        · exact h2 z hz
        · rw [List.mem_singleton.mp hz]; exact h1 y hmem
  have hl3 : xs.length ≤ 1000000 := by omega
  unfold t__law_order
  walk_at "l3"
  refine x_wh (xs.length + 1) (loop xs.length xs [] n _ rfl (by simp) (fun y hy => hy) (by simp) (by omega) ?_)
  rintro e ⟨fs, m', s2, q1, q2, q3, rfl⟩
  walk_at "l3"
  exact hq fs m' q1 q2 q3
/-! ### kinds -/
def nmB : D → Bool
  | .str z => leafB z
  | _ => false
def kindsLL : List D := [.lst [.str "a", .str "b", .str "c", .str "d", .str "e"], .lst [.str "coin", .str "key", .str "b", .str "lamp", .str "z"], .lst [.str "z", .str "zz", .str "abcdefgh", .str "y", .str "a"], .lst [.str "x", .str "f", .str "a", .str "g", .str "b"]]
def kindsB : D → Bool
  | .lst xs => xs.length == 5 && D.nois xs && xs.all nmB
  | _ => false
theorem kindsLL_ok : kindsLL.all kindsB = true := by decide +kernel
theorem kinds_of_mem {d : D} (h : d ∈ kindsLL) : ∃ xs, d = .lst xs ∧ xs.length = 5 ∧ D.nois xs = true ∧ ∀ y ∈ xs, nmB y = true := by
  have q := List.all_eq_true.mp kindsLL_ok d h
  cases d with
  | lst xs =>
    simp only [kindsB, Bool.and_eq_true, beq_iff_eq, List.all_eq_true] at q
    exact ⟨xs, rfl, q.1.1, q.1.2, q.2⟩
  | _ => cases q
theorem cutK (xs : List D) {k : Int} (h : 0 ≤ k) : L3.cutD xs none (some k) = xs.take k.toNat := by
  obtain ⟨j, rfl⟩ := Int.eq_ofNat_of_zero_le h
  unfold L3.cutD
  have e1 : HT.sIx xs.length 0 none = 0 := rfl
  have hn : ¬ ((j : Int) < 0) := by omega
  rw [e1, List.drop_zero, Nat.sub_zero]
  have e2 : HT.sIx xs.length xs.length (some (j : Int)) = min j xs.length := by
    unfold HT.sIx
    simp [hn]
  rw [e2, Int.toNat_natCast]
  by_cases c : j ≤ xs.length
  · rw [Nat.min_eq_left c]
  · rw [Nat.min_eq_right (by omega), List.take_of_length_le (Nat.le_refl _), List.take_of_length_le (by omega)]
def spKds : SpD := fun as Qd _ => ∃ (n : Nat) (k : Int), as = [.well n, .d (.int k)] ∧ n + 200 < 2 ^ 40 ∧ 1 ≤ k ∧ k ≤ 3 ∧ ∀ ks m, ks ≠ [] → ks.length ≤ 5 → (∀ y ∈ ks, nmB y = true) → m ≤ n + 6 → Qd (.lst ks) [.well m, .d (.int k)]
theorem k_kinds : Keeps 2 2 spKds (t__law_kinds spOrder spOne) := by
  rintro as Qd Xd - ⟨n, k, rfl, hn, k1, k3, hq⟩
  unfold t__law_kinds
  walk_at "l3"
  refine ⟨0, [.d (.lst kindsLL)], [.lst kindsLL], .well n, rfl, rfl, rfl, rfl, rfl, n, kindsLL, rfl, by omega, List.cons_ne_nil _ _, by decide, fun v hv => ?_⟩
  refine ⟨.well (n + 1), [.d (.lst kindsLL)], rfl, ?_⟩
  obtain ⟨xs, rfl, x1, x2, x3⟩ := kinds_of_mem hv
  walk_at "l3"
  refine ⟨0, [.d (.lst xs)], [.lst xs], .well (n + 1), rfl, rfl, rfl, rfl, rfl, n + 1, xs, rfl, by omega, by omega, x2, fun ys m y1 y2 y3 => ?_⟩
  refine ⟨.well m, [.d (.lst xs)], rfl, ?_⟩
  walk_at "l3"
  rw [cutK ys (by omega)]
  have hl : (ys.take k.toNat).length = k.toNat := by rw [List.length_take]; omega
  refine hq _ _ (fun z => ?_) (by omega) (fun y hy => x3 y (y2 y (List.mem_of_mem_take hy))) (by omega)
  rw [z] at hl
  simp at hl
  omega
/-! ### drawn statements -/
def spLs (m : Nat) : SpD := fun as Qd _ => ∃ (n : Nat) (ks : List D) (size : Int) (alone : Bool), as = [.well n, .d (.lst ks), .d (.int size), .d (.bl alone)] ∧ (n : Int) + 4 * size + 10 < 2 ^ 39 ∧ 1 ≤ size ∧ size ≤ m ∧ m ≤ 50 ∧ ks ≠ [] ∧ ks.length ≤ 5 ∧ (∀ y ∈ ks, nmB y = true) ∧
  ∀ (d : D) (k m' : Nat), TS k d → (k : Int) ≤ size → (m' : Int) ≤ n + 4 * size → Qd d [.well m', .d (.lst ks), .d (.int size), .d (.bl alone)]
theorem leaf_of {d : D} (h : nmB d = true) : TS 1 d := by
  cases d with
  | str z => exact .leaf h
  | _ => cases h
theorem k_statement (m : Nat) (sp : SpD) (hsp : ∀ j, m = j + 1 → sp = spLs j) : Keeps 4 6 (spLs m) (t__law_statement spDraw spOne sp) := by
  rintro as Qd Xd - ⟨n, ks, size, alone, rfl, hn, s1, s2, hm, kne, kl, kk, hq⟩
  have leaf : ∀ n' : Nat, n' ≤ n + 1 → ∀ (De : EndsD) (Xd : XD), (∀ d m', TS 1 d → m' ≤ n' + 1 → De.rt d [.well m', .d (.lst ks), .d (.int size), .d (.bl alone), .no, .no]) →
      (dRet (dCallR 2 spOne (dRef 0 (dCons (dBin r3Plus (dBin r3Plus (dBin r3Star (dUn r31List (dVar 1)) (dC (.int (3)))) (dLst (dCons (dC (.str "yes")) dNil))) (dIf (dB (dVar 3)) (dLst dNil) (dLst (dCons (dC (.str "no")) dNil)))) dNil)))) Xd De [.well n', .d (.lst ks), .d (.int size), .d (.bl alone), .no, .no] := by
    intro n' hn' De Xd hD
    have l1 : (repD 3 ks).length ≤ 15 := by
      simp [repD, List.replicate]
      omega
    have rk : ∀ y ∈ repD 3 ks, nmB y = true := fun y hy => by
      simp [repD, List.replicate] at hy
      exact kk y hy
    walk_at "l3"
    refine .inr (.inl ⟨ks, 3, rfl, rfl, by decide, by decide, by show ks.length * 3 ≤ _; omega, ?_⟩)
    walk_at "l3"
    have fin : ∀ zs : List D, zs.length ≤ 1 → (∀ y ∈ zs, nmB y = true) → ∀ (Q : D → List S → Prop) (Xq : XV → List S → Prop), (∀ d m', TS 1 d → m' ≤ n' + 1 → ∀ s, Q d [.well m', s]) → spOne [.well n', .d (.lst (repD 3 ks ++ [.str "yes"] ++ zs))] Q Xq := fun zs z1 z2 Q Xq hQ => by
      refine ⟨n', _, rfl, by omega, by simp, by simp; omega, fun x hx => hQ x _ (leaf_of ?_) (Nat.le_refl _) _⟩
      rcases List.mem_append.mp hx with hx | hx
      · rcases List.mem_append.mp hx with hx | hx
        · exact rk x hx
        · rw [List.mem_singleton.mp hx]; decide +kernel
      · exact z2 x hx
    cases alone with
    | true =>
      walk_at "l3"
      refine ⟨0, _, _, .well n', rfl, rfl, rfl, rfl, rfl, fin [] (by simp) (by simp) _ _ fun d m' hd hm' s => ⟨.well m', [s], rfl, ?_⟩⟩
      walk_at "l3"
      exact hD d m' hd hm'
    | false =>
      walk_at "l3"
      refine ⟨0, _, _, .well n', rfl, rfl, rfl, rfl, rfl, fin [.str "no"] (by simp) (fun y hy => by rw [List.mem_singleton.mp hy]; decide +kernel) _ _ fun d m' hd hm' s => ⟨.well m', [s], rfl, ?_⟩⟩
      walk_at "l3"
      exact hD d m' hd hm'
  unfold t__law_statement
  walk_at "l3"
  by_cases c1 : size < 3
  · rw [if_pos (by simpa using c1)]
    rw [if_pos rfl]
    exact leaf n (by omega) _ _ fun d m' hd hm' => hq d 1 m' hd (by omega) (by omega)
  rw [if_neg (by simpa using c1)]
  walk_at "l3"
  refine ⟨0, [.d (.int 5)], [.int 5], .well n, rfl, rfl, rfl, rfl, rfl, n, 5, rfl, by omega, by omega, by omega, fun v v0 v1 => ?_⟩; refine ⟨.well (n + 1), [.d (.int 5)], rfl, ?_⟩
  walk_at "l3"
  by_cases c2 : v = 0
  · rw [if_pos (by simpa using c2)]
    exact leaf (n + 1) (by omega) _ _ fun d m' hd hm' => hq d 1 m' hd (by omega) (by omega)
  rw [if_neg (by simpa using c2)]
  walk_at "l3"
  obtain ⟨j, rfl⟩ : ∃ j, m = j + 1 := ⟨m - 1, by omega⟩
  obtain rfl := hsp j rfl
  have rest : ∀ (wd : D) (s : S), (∃ w : Str, wd = .str w ∧ (w = "and" ∨ w = "or" ∨ w = "gives")) → ∀ Xd : XD,
      (dSeq (dSet 5 (dBin r3Plus (dC (.int (1))) (dBin r3Star (dC (.int (2))) (dCallR 2 spDraw (dRef 0 (dCons (dBin r3Div (dBin r3Sub (dVar 2) (dC (.int (1)))) (dC (.int (2)))) dNil))))))
  (dRet (dTup (dCons (dVar 4) (dCons (dCallR 4 (spLs j) (dRef 0 (dCons (dVar 1) (dCons (dVar 5) (dCons (dVar 3) dNil))))) (dCons (dCallR 4 (spLs j) (dRef 0 (dCons (dVar 1) (dCons (dBin r3Sub (dBin r3Sub (dVar 2) (dC (.int (1)))) (dVar 5)) (dCons (dVar 3) dNil))))) dNil)))))) Xd (fin [.well n, .d (.lst ks), .d (.int size), .d (.bl alone)] Qd) [.well (n + 1 + 1), .d (.lst ks), .d (.int size), .d (.bl alone), .d wd, .no] := by
    rintro wd s ⟨w, rfl, hw⟩ Xd
    walk_at "l3"
    refine ⟨0, [.d (.int ((size - 1) / 2))], [.int ((size - 1) / 2)], .well (n + 1 + 1), rfl, rfl, rfl, rfl, rfl, n + 1 + 1, (size - 1) / 2, rfl, by omega, by omega, by omega, fun x x0 x1 => ?_⟩
    refine ⟨.well (n + 1 + 1 + 1), [.d (.int ((size - 1) / 2))], rfl, ?_⟩
    have cm : CMul 2 x := .inl ⟨by omega, by omega⟩
    walk_at "l3"
    refine ⟨0, [.d (.lst ks), .d (.int (1 + 2 * x)), .d (.bl alone)], [.lst ks, .int (1 + 2 * x), .bl alone], .well (n + 1 + 1 + 1), rfl, rfl, rfl, rfl, rfl, n + 1 + 1 + 1, ks, 1 + 2 * x, alone, rfl, by omega, by omega, by omega, by omega, kne, kl, kk, fun a ka ma ha la1 la2 => ?_⟩
    refine ⟨.well ma, [.d (.lst ks), .d (.int (1 + 2 * x)), .d (.bl alone)], rfl, ?_⟩
    walk_at "l3"
    refine ⟨0, [.d (.lst ks), .d (.int (size - 1 - (1 + 2 * x))), .d (.bl alone)], [.lst ks, .int (size - 1 - (1 + 2 * x)), .bl alone], .well ma, rfl, rfl, rfl, rfl, rfl, ma, ks, size - 1 - (1 + 2 * x), alone, rfl, by omega, by omega, by omega, by omega, kne, kl, kk, fun b kb mb hb lb1 lb2 => ?_⟩
    refine ⟨.well mb, [.d (.lst ks), .d (.int (size - 1 - (1 + 2 * x))), .d (.bl alone)], rfl, ?_⟩
    walk_at "l3"
    exact hq _ (ka + kb + 1) mb (.node hw ha hb) (by omega) (by omega)
  cases alone with
  | true =>
    walk_at "l3"
    refine ⟨0, _, _, .well (n + 1), rfl, rfl, rfl, rfl, rfl, n + 1, [.str "and", .str "gives", .str "gives", .str "gives"], rfl, by omega, List.cons_ne_nil _ _, by decide, fun wd hwd => ?_⟩
    refine ⟨.well (n + 1 + 1), [_], rfl, x_asgn rfl rfl rfl ?_⟩
    refine rest wd .no ?_ _
    simp only [List.mem_cons, List.not_mem_nil, or_false] at hwd
    rcases hwd with rfl | rfl | rfl | rfl <;> exact ⟨_, rfl, by simp⟩
  | false =>
    walk_at "l3"
    refine ⟨0, _, _, .well (n + 1), rfl, rfl, rfl, rfl, rfl, n + 1, [.str "and", .str "or", .str "or", .str "gives", .str "gives", .str "gives"], rfl, by omega, List.cons_ne_nil _ _, by decide, fun wd hwd => ?_⟩
    refine ⟨.well (n + 1 + 1), [_], rfl, x_asgn rfl rfl rfl ?_⟩
    refine rest wd .no ?_ _
    simp only [List.mem_cons, List.not_mem_nil, or_false] at hwd
    rcases hwd with rfl | rfl | rfl | rfl | rfl | rfl <;> exact ⟨_, rfl, by simp⟩
open X1

theorem x_ninR {lo hi : Int} {te : TDE} {Xd : XD} {e : List S} {Q : R → List S → Prop} (h : te Xd e fun ρ e1 => ∃ i, see e1 ρ = some (.int i) ∧ Q (.d (.bl (!decide (lo ≤ i ∧ i < hi)))) e1) : dNinR lo hi te Xd e Q := h
theorem eqv_nil (xs : List D) : D.eqv (.lst xs) (.lst []) = xs.isEmpty := by
  cases xs <;> simp [D.eqv, D.eqvs]
theorem eqOk_nil {xs : List D} (h : D.nois xs = true) : eqOk (.lst xs) (.lst []) = true := by
  simp [eqOk, D.noi, D.nois, D.flat, D.flats, h, D.depth, D.depths]
/-! ### parts -/
def spPt (m : Nat) : SpD := fun as Qd _ => ∃ d k, as = [.d d] ∧ TS k d ∧ k ≤ m ∧ m ≤ 100 ∧ Qd (.lst (partsD d)) as
theorem k_parts (m : Nat) (sp : SpD) (hsp : ∀ j, m = j + 1 → sp = spPt j) : Keeps 1 1 (spPt m) (t__law_parts sp) := by
  rintro as Qd Xd - ⟨d, k, rfl, hd, hk, hm, hq⟩
  unfold t__law_parts
  walk_at "l3"
  rcases hd.cas with ⟨z, rfl, rfl, hz⟩ | ⟨w, a, b, i, j, rfl, rfl, hw, ha, hb⟩
  · walk_at "l3"
    rw [partsD_str] at hq
    exact hq
  · obtain ⟨m', rfl⟩ : ∃ m', m = m' + 1 := ⟨m - 1, by omega⟩
    obtain rfl := hsp m' rfl
    have hi := ha.pos
    have hj := hb.pos
    have la := ha.plen
    have lb := hb.plen
    walk_at "l3"
    refine ⟨a, i, rfl, ha, by omega, by omega, ?_⟩
    walk_at "l3"
    refine ⟨b, j, rfl, hb, by omega, by omega, ?_⟩
    walk_at "l3"
    rw [partsD_tup] at hq
    simpa using hq
/-! ### lists for tuples -/
def spDp (m : Nat) : SpD := fun as Qd _ => ∃ d, as = [.d d] ∧ okD d ∧ d.depth ≤ m ∧ Qd (dpD d) as
theorem dpDs_map : ∀ xs : List D, dpDs xs = xs.map dpD
  | [] => rfl
  | x :: r => by simp only [dpDs, List.map_cons, dpDs_map r]
theorem k_deep (m : Nat) (sp : SpD) (hsp : ∀ j, m = j + 1 → sp = spDp j) : Keeps 1 2 (spDp m) (t__law_deep sp) := by
  rintro as Qd Xd - ⟨d, rfl, ok, hm, hq⟩
  have hins := noi_isIns ok.noi
  have row : ∀ (xs : List D) (F : List D → List S → Prop) (x0 : D), (∀ x ∈ xs, okD x) → D.depths xs + 1 ≤ m → xs.length ≤ 1000000 → F (dpDs xs) [.d x0, .no] → okV [S.d x0, .no] [1] ∧ lcN (dgName 1) dYes (bdE (dCall 1 sp [] (dCons (dVar 1) dNil))) [1] F xs [] (wipeE [.d x0, .no] [1]) := by
    intro xs F x0 hx hd hl h
    obtain ⟨m', rfl⟩ : ∃ m', m = m' + 1 := ⟨m - 1, by omega⟩
    obtain rfl := hsp m' rfl
    refine ⟨okV1 rfl rfl, lcN_map 1 dpD _ rfl _ (fun x hx' Q' q => ?_) hl ?_⟩
    · walk_at "l3"
      have := depth_mem hx'
      refine ⟨x, rfl, hx x hx', by omega, ?_⟩
      exact q
    · rw [← dpDs_map]
      exact h
  unfold t__law_deep
  walk_at "l3"
  cases d with
  | lst xs =>
    have h1 := len_nodesL xs
    have h2 := ok.few
    simp only [nodes] at h2
    walk_at "l3"
    unfold dLc
    walk_at "l3"
    refine row xs _ _ (fun x hx => ok.lst hx) (by simpa [D.depth] using hm) (by omega) ?_
    walk_at "l3"
    exact hq
  | tup xs =>
    have h1 := len_nodesL xs
    have h2 := ok.few
    simp only [nodes] at h2
    walk_at "l3"
    unfold dLc
    walk_at "l3"
    refine row xs _ _ (fun x hx => ok.tup hx) (by simpa [D.depth] using hm) (by omega) ?_
    walk_at "l3"
    exact hq
  | ins _ _ _ => cases hins
  | _ =>
    walk_at "l3"
    exact hq
/-! ### the law's own names -/
def spNm : SpD := fun as Qd _ => ∃ z, as = [.d (.str z)] ∧ z.length ≤ 1000000 ∧ Qd (.bl (isName (.str z))) as
theorem noLetters (z : Str) : ((chars z).filter fun x => !isLetter x).isEmpty = (chars z).all isLetter := by
  generalize chars z = l
  induction l with
  | nil => rfl
  | cons x r ih =>
    rw [List.filter_cons, List.all_cons]
    cases isLetter x with
    | true => simpa using ih
    | false => rfl
theorem k_law_name : Keeps 1 3 spNm t__law_is_name := by
  rintro as Qd Xd - ⟨z, rfl, hz, hq⟩
  have hm := mil
  unfold t__law_is_name
  walk_at "l3"
  refine .inr ⟨wordsD, .inl rfl, rfl, by decide, ?_⟩
  walk_at "l3"
  cases hw : inD (.str z) wordsD with
  | true =>
    walk_at "l3"
    have e : isName (.str z) = false := by simp [isName, hw]
    rw [e] at hq
    exact hq
  | false =>
    walk_at "l3"
    refine x_ninR ?_
    walk_at "l3"
    refine ⟨z.length, rfl, by omega, ?_⟩
    walk_at "l3"
    by_cases hl : (1 : Int) ≤ z.length ∧ (z.length : Int) < 9
    · have e1 : (!decide ((1 : Int) ≤ z.length ∧ (z.length : Int) < 9)) = false := by simp; omega
      rw [e1]
      walk_at "l3"
      unfold dLc
      walk_at "l3"
      have hc : (chars z).length = z.length := by simp [chars]; rfl
      refine ⟨okV1 rfl rfl, lcN_fm 2 (fun x => x) (fun x => !isLetter x) _ rfl _ [] (fun x hx Q' q => ?_) (fun x hx _ Q' q => ?_) (by simp; omega) ?_⟩
      · simp only [chars, List.mem_map] at hx
        obtain ⟨c, _, rfl⟩ := hx
        walk_at "l3"
        refine .inl ⟨_, _, rfl, rfl, ?_⟩
        walk_at "l3"
        exact q
      · walk_at "l3"
        exact q
      · walk_at "l3"
        rw [List.map_id']
        have nn : D.nois ((chars z).filter fun x => !isLetter x) = true := nois_of fun x hx => by
          have hx := (List.mem_filter.mp hx).1
          simp only [chars, List.mem_map] at hx
          obtain ⟨c, _, rfl⟩ := hx
          rfl
        refine x_eq (eqOk_nil nn) ?_
        walk_at "l3"
        rw [eqv_nil, noLetters]
        have e2 : decide (1 ≤ z.length) = true := by simp; omega
        have e3 : decide (z.length ≤ 8) = true := by simp; omega
        have e : isName (.str z) = (chars z).all isLetter := by simp only [isName, e2, e3, hw]; rfl
        rw [e] at hq
        exact hq
    · have e1 : (!decide ((1 : Int) ≤ z.length ∧ (z.length : Int) < 9)) = true := by simp; omega
      rw [e1]
      walk_at "l3"
      have e : isName (.str z) = false := by
        by_cases q1 : 1 ≤ z.length
        · have q2 : decide (z.length ≤ 8) = false := by simp; omega
          simp only [isName, q2, Bool.and_false, Bool.false_and]
        · have q2 : decide (1 ≤ z.length) = false := by simp; omega
          simp only [isName, q2, Bool.false_and]
      rw [e] at hq
      exact hq
/-! ### the law's own statements -/
theorem isSt_no {d : D} (h1 : ∀ z, d ≠ .str z) (h2 : ∀ j a b, d ≠ .tup [.str j, a, b]) (h3 : ∀ j a b, d ≠ .lst [.str j, a, b]) : isSt d = false := by
  cases h : isSt d with
  | false => rfl
  | true =>
    rcases isSt_cas h with ⟨z, e, _⟩ | ⟨j, a, b, e | e, _⟩
    · exact absurd e (h1 z)
    · exact absurd e (h2 j a b)
    · exact absurd e (h3 j a b)
def spIs (m : Nat) : SpD := fun as Qd _ => ∃ d, as = [.d d] ∧ okD d ∧ d.depth ≤ m ∧ Qd (.bl (isSt d)) as
theorem k_law_is (m : Nat) (sp : SpD) (hsp : ∀ j, m = j + 1 → sp = spIs j) : Keeps 1 1 (spIs m) (t__law_is_statement spNm sp) := by
  rintro as Qd Xd - ⟨d, rfl, ok, hm, hq⟩
  have hins := noi_isIns ok.noi
  unfold t__law_is_statement
  walk_at "l3"
  have no : ∀ {x : D}, isSt x = false → Qd (.bl (isSt x)) [.d x] → Qd (.bl false) [.d x] := fun e h => by rw [e] at h; exact h
  cases d with
  | str z =>
    walk_at "l3"
    refine x_in_t rfl rfl ?_
    walk_at "l3"
    rw [isSt_str] at hq
    cases hz : inD (.str z) [.str "yes", .str "no"] with
    | true =>
      have hz' : isYN z = true := hz
      rw [hz'] at hq
      walk_at "l3"
      exact hq
    | false =>
      have hz' : isYN z = false := hz
      rw [hz', Bool.false_or] at hq
      walk_at "l3"
      refine ⟨z, rfl, ok.str, ?_⟩
      walk_at "l3"
      exact hq
  | tup xs =>
    have hl1 := len_nodesL xs
    have hl2 := ok.few
    simp only [nodes] at hl2
    have hl : xs.length ≤ 1000000 := by omega
    walk_at "l3"
    rcases xs with _ | ⟨a, _ | ⟨b, _ | ⟨c, _ | ⟨d', q⟩⟩⟩⟩
    · walk_at "l3"
      exact no (isSt_no (by simp) (by simp) (by simp)) hq
    · walk_at "l3"
      exact no (isSt_no (by simp) (by simp) (by simp)) hq
    · walk_at "l3"
      exact no (isSt_no (by simp) (by simp) (by simp)) hq
    · have hai := noi_isIns (ok.tup (x := a) (by simp)).noi
      have hb := ok.tup (x := b) (by simp)
      have hc := ok.tup (x := c) (by simp)
      walk_at "l3"
      cases a with
      | str j =>
        walk_at "l3"
        refine x_notin_t rfl joins_flat ?_
        walk_at "l3"
        rw [isSt_tup] at hq
        cases hj : inD (.str j) [.str "and", .str "or", .str "gives"] with
        | false =>
          have hj' : isJoin j = false := hj
          rw [hj'] at hq
          walk_at "l3"
          exact hq
        | true =>
          have hj' : isJoin j = true := hj
          rw [hj', Bool.true_and] at hq
          obtain ⟨m', rfl⟩ : ∃ m', m = m' + 1 := ⟨m - 1, by simp only [D.depth] at hm; omega⟩
          obtain rfl := hsp m' rfl
          simp only [D.depth, D.depths] at hm
          walk_at "l3"
          refine ⟨b, rfl, hb, by omega, ?_⟩
          walk_at "l3"
          cases hbs : isSt b with
          | false =>
            rw [hbs] at hq
            walk_at "l3"
            exact hq
          | true =>
            rw [hbs] at hq
            walk_at "l3"
            refine ⟨c, rfl, hc, by omega, ?_⟩
            walk_at "l3"
            exact hq
      | ins _ _ _ => cases hai
      | _ =>
        walk_at "l3"
        exact no (isSt_no (by simp) (by simp) (by simp)) hq
    · rw [if_pos (by simp; omega)]
      walk_at "l3"
      exact no (isSt_no (by simp) (by simp) (by simp)) hq
  | lst xs =>
    have hl1 := len_nodesL xs
    have hl2 := ok.few
    simp only [nodes] at hl2
    have hl : xs.length ≤ 1000000 := by omega
    walk_at "l3"
    rcases xs with _ | ⟨a, _ | ⟨b, _ | ⟨c, _ | ⟨d', q⟩⟩⟩⟩
    · walk_at "l3"
      exact no (isSt_no (by simp) (by simp) (by simp)) hq
    · walk_at "l3"
      exact no (isSt_no (by simp) (by simp) (by simp)) hq
    · walk_at "l3"
      exact no (isSt_no (by simp) (by simp) (by simp)) hq
    · have hai := noi_isIns (ok.lst (x := a) (by simp)).noi
      have hb := ok.lst (x := b) (by simp)
      have hc := ok.lst (x := c) (by simp)
      walk_at "l3"
      cases a with
      | str j =>
        walk_at "l3"
        refine x_notin_t rfl joins_flat ?_
        walk_at "l3"
        rw [isSt_lst] at hq
        cases hj : inD (.str j) [.str "and", .str "or", .str "gives"] with
        | false =>
          have hj' : isJoin j = false := hj
          rw [hj'] at hq
          walk_at "l3"
          exact hq
        | true =>
          have hj' : isJoin j = true := hj
          rw [hj', Bool.true_and] at hq
          obtain ⟨m', rfl⟩ : ∃ m', m = m' + 1 := ⟨m - 1, by simp only [D.depth] at hm; omega⟩
          obtain rfl := hsp m' rfl
          simp only [D.depth, D.depths] at hm
          walk_at "l3"
          refine ⟨b, rfl, hb, by omega, ?_⟩
          walk_at "l3"
          cases hbs : isSt b with
          | false =>
            rw [hbs] at hq
            walk_at "l3"
            exact hq
          | true =>
            rw [hbs] at hq
            walk_at "l3"
            refine ⟨c, rfl, hc, by omega, ?_⟩
            walk_at "l3"
            exact hq
      | ins _ _ _ => cases hai
      | _ =>
        walk_at "l3"
        exact no (isSt_no (by simp) (by simp) (by simp)) hq
    · rw [if_pos (by simp; omega)]
      walk_at "l3"
      exact no (isSt_no (by simp) (by simp) (by simp)) hq
  | ins _ _ _ => cases hins
  | _ =>
    walk_at "l3"
    exact no (isSt_no (by simp) (by simp) (by simp)) hq
/-! ### flat -/
def spFl (m : Nat) : SpD := fun as Qd _ => ∃ d, as = [.d d] ∧ isSt d = true ∧ szS d ≤ m ∧ m ≤ 100000 ∧ ∀ xs, xs.length = szS d → Qd (.lst xs) as
theorem k_flat (m : Nat) (sp : SpD) (hsp : ∀ j, m = j + 1 → sp = spFl j) : Keeps 1 1 (spFl m) (t__law_flat sp) := by
  rintro as Qd Xd - ⟨d, rfl, hs, hm, hm2, hq⟩
  unfold t__law_flat
  walk_at "l3"
  rcases isSt_cas hs with ⟨z, rfl, hz⟩ | ⟨j, a, b, hab, hj, ha, hb⟩
  · walk_at "l3"
    exact hq _ (by rw [szS_str]; rfl)
  · have pa := szS_pos a
    have pb := szS_pos b
    have q : szS d = szS a + szS b + 1 := by
      rcases hab with rfl | rfl
      · exact szS_tup ..
      · exact szS_lst ..
    obtain ⟨m', rfl⟩ : ∃ m', m = m' + 1 := ⟨m - 1, by omega⟩
    obtain rfl := hsp m' rfl
    rcases hab with rfl | rfl
    · walk_at "l3"
      refine ⟨a, rfl, ha, by omega, by omega, fun xs hxs => ?_⟩
      walk_at "l3"
      refine ⟨b, rfl, hb, by omega, by omega, fun ys hys => ?_⟩
      walk_at "l3"
      exact hq _ (by rw [q]; simp; omega)
    · walk_at "l3"
      refine ⟨a, rfl, ha, by omega, by omega, fun xs hxs => ?_⟩
      walk_at "l3"
      refine ⟨b, rfl, hb, by omega, by omega, fun ys hys => ?_⟩
      walk_at "l3"
      exact hq _ (by rw [q]; simp; omega)
open X1

/-! ### bent ones -/
structure Ot (k : Nat) (d : D) : Prop where
  noi : d.noi = true
  few : nodes d ≤ 20 * k + 40
  low : d.depth ≤ k + 2
  sz : szS d ≤ k + 2
theorem Ot.ok {k : Nat} {d : D} (h : Ot k d) (hk : k ≤ 100) : okD d := ⟨h.noi, by have := h.few; omega, by have := h.low; omega⟩
def oddL : List D := [.str "Yes", .str "", .str "gives", .str "and", .str "unit", .str "abcdefghi", .non, .int 5, .tup [], .bl true, .tup [.str "and"], .tup [.str "or", .str "a"], .tup [.str "but", .str "a", .str "b"], .lst [.str "gives", .str "a", .str "b"], .tup [.str "gives", .str "a", .str "b", .str "c"], .str "a"]
theorem odd_all : oddL.all (fun d => d.noi && decide (nodes d ≤ 40) && decide (d.depth ≤ 2)) = true := by decide +kernel
theorem odd_sz {d : D} (h : d ∈ oddL) : szS d ≤ 3 := by
  simp only [oddL, List.mem_cons, List.not_mem_nil, or_false] at h
  rcases h with rfl | rfl | rfl | rfl | rfl | rfl | rfl | rfl | rfl | rfl | rfl | rfl | rfl | rfl | rfl | rfl <;> simp [szS]
theorem odd_ot {d : D} (h : d ∈ oddL) (k : Nat) (hk : 1 ≤ k) : Ot k d := by
  have z := odd_sz h
  have q := List.all_eq_true.mp odd_all d h
  simp only [Bool.and_eq_true, decide_eq_true_eq] at q
  exact ⟨q.1.1, by omega, by omega, by omega⟩
def spBn (m : Nat) : SpD := fun as Qd _ => ∃ (n : Nat) (d : D) (k : Nat), as = [.well n, .d d] ∧ TS k d ∧ k ≤ m ∧ m ≤ 100 ∧ n + 3 * k + 10 < 2 ^ 39 ∧ ∀ (d' : D) (m' : Nat), Ot k d' → m' ≤ n + 3 * k → Qd d' [.well m', .d d]
theorem k_bent (m : Nat) (sp : SpD) (hsp : ∀ j, m = j + 1 → sp = spBn j) : Keeps 2 4 (spBn m) (t__law_bent spDraw spOne sp) := by
  rintro as Qd Xd - ⟨n, d, k, rfl, hd, hk, hm, hn, hq⟩
  have kp := hd.pos
  have odd : ∀ n' : Nat, n' ≤ n + 1 → ∀ (De : EndsD) (Xd : XD), (∀ d' m' s, Ot k d' → m' ≤ n' + 1 → De.rt d' [.well m', .d d, s, .no]) →
      (dSeq (dSet 2 (dLst (dCons (dC (.str "Yes")) (dCons (dC (.str "")) (dCons (dC (.str "gives")) (dCons (dC (.str "and")) (dCons (dC (.str "unit")) (dCons (dC (.str "abcdefghi")) (dCons (dC .non) (dCons (dC (.int (5))) (dCons (dTup dNil) (dCons (dC (.bl true)) (dCons (dTup (dCons (dC (.str "and")) dNil)) (dCons (dTup (dCons (dC (.str "or")) (dCons (dC (.str "a")) dNil))) (dCons (dTup (dCons (dC (.str "but")) (dCons (dC (.str "a")) (dCons (dC (.str "b")) dNil)))) (dCons (dLst (dCons (dC (.str "gives")) (dCons (dC (.str "a")) (dCons (dC (.str "b")) dNil)))) (dCons (dTup (dCons (dC (.str "gives")) (dCons (dC (.str "a")) (dCons (dC (.str "b")) (dCons (dC (.str "c")) dNil))))) (dCons (dC (.str "a")) dNil))))))))))))))))))
  (dRet (dCallR 2 spOne (dRef 0 (dCons (dVar 2) dNil))))) Xd De [.well n', .d d, .no, .no] := by
    intro n' hn' De Xd h
    walk_at "l3"
    refine ⟨0, [.d (.lst oddL)], [.lst oddL], .well n', rfl, rfl, rfl, rfl, rfl, n', oddL, rfl, by omega, List.cons_ne_nil _ _, by decide, fun v hv => ?_⟩
    refine ⟨.well (n' + 1), [.d (.lst oddL)], rfl, ?_⟩
    walk_at "l3"
    exact h v _ _ (odd_ot hv k kp) (Nat.le_refl _)
  unfold t__law_bent
  walk_at "l3"
  rcases hd.cas with ⟨z, rfl, rfl, hz⟩ | ⟨w, a, b, i, j, rfl, rfl, hw, ha, hb⟩
  · walk_at "l3"
    refine ⟨0, [.d (.lst oddL)], [.lst oddL], .well n, rfl, rfl, rfl, rfl, rfl, n, oddL, rfl, by omega, List.cons_ne_nil _ _, by decide, fun v hv => ?_⟩
    refine ⟨.well (n + 1), [.d (.lst oddL)], rfl, ?_⟩
    walk_at "l3"
    exact hq v _ (odd_ot hv 1 (Nat.le_refl _)) (by omega)
  · have hi := ha.pos
    have hj := hb.pos
    obtain ⟨m1, rfl⟩ : ∃ m1, m = m1 + 1 := ⟨m - 1, by omega⟩
    obtain rfl := hsp m1 rfl
    have an := ha.nod
    have bn := hb.nod
    have wl := w_len hw
    have ad := ha.sm.dep2
    have bd := hb.sm.dep2
    have ai := ha.sm.noi
    have bi := hb.sm.noi
    walk_at "l3"
    refine ⟨0, [.d (.int 3)], [.int 3], .well n, rfl, rfl, rfl, rfl, rfl, n, 3, rfl, by omega, by omega, by omega, fun v v0 v1 => ?_⟩; refine ⟨.well (n + 1), [.d (.int 3)], rfl, ?_⟩
    walk_at "l3"
    by_cases c2 : v = 0
    · rw [if_pos (by simpa using c2)]
      exact odd (n + 1) (by omega) _ _ fun d' m' s ho hm' => hq d' m' ho (by omega)
    rw [if_neg (by simpa using c2)]
    walk_at "l3"
    refine ⟨0, [.d (.int 2)], [.int 2], .well (n + 1), rfl, rfl, rfl, rfl, rfl, (n + 1), 2, rfl, by omega, by omega, by omega, fun x x0 x1 => ?_⟩; refine ⟨.well ((n + 1) + 1), [.d (.int 2)], rfl, ?_⟩
    walk_at "l3"
    by_cases c3 : x = 0
    · subst c3
      walk_at "l3"
      refine ⟨0, [.d a], [a], .well (n + 1 + 1), rfl, rfl, rfl, rfl, rfl, n + 1 + 1, a, i, rfl, ha, by omega, by omega, by omega, fun a' m' hao hm' => ?_⟩
      refine ⟨.well m', [.d a], rfl, ?_⟩
      have oa := hao.few
      have od := hao.low
      walk_at "l3"
      have c1 : L3.cutD [D.str w, a, b] none (some (1 + 0)) = [.str w] := rfl
      refine .inr (.inr (.inr ⟨_, _, rfl, rfl, by show [D.str w].length + [a'].length ≤ 1000000; simp, ?_⟩))
      walk_at "l3"
      have c2 : L3.cutD [D.str w, a, b] (some (1 + 0 + 1)) none = [b] := rfl
      refine .inr (.inr (.inr ⟨_, _, rfl, rfl, by show ([D.str w] ++ [a']).length + [b].length ≤ 1000000; simp, ?_⟩))
      walk_at "l3"
      refine hq (.tup [.str w, a', b]) m' ⟨?_, ?_, ?_, ?_⟩ (by omega)
      · simp [D.noi, D.nois, hao.noi, bi]
      · simp only [nodes, nodesL]; omega
      · simp only [D.depth, D.depths]; omega
      · have z1 := hao.sz
        have z2 := hb.st.2
        rw [szS_tup]; omega
    · have c4 : x = 1 := by omega
      subst c4
      walk_at "l3"
      refine ⟨0, [.d b], [b], .well (n + 1 + 1), rfl, rfl, rfl, rfl, rfl, n + 1 + 1, b, j, rfl, hb, by omega, by omega, by omega, fun b' m' hbo hm' => ?_⟩
      refine ⟨.well m', [.d b], rfl, ?_⟩
      have ob := hbo.few
      have od := hbo.low
      walk_at "l3"
      have c1 : L3.cutD [D.str w, a, b] none (some (1 + 1)) = [.str w, a] := rfl
      refine .inr (.inr (.inr ⟨_, _, rfl, rfl, by show [D.str w, a].length + [b'].length ≤ 1000000; simp, ?_⟩))
      walk_at "l3"
      have c2 : L3.cutD [D.str w, a, b] (some (1 + 1 + 1)) none = [] := rfl
      refine .inr (.inr (.inr ⟨_, _, rfl, rfl, by show ([D.str w, a] ++ [b']).length + ([] : List D).length ≤ 1000000; simp, ?_⟩))
      walk_at "l3"
      refine hq (.tup [.str w, a, b']) m' ⟨?_, ?_, ?_, ?_⟩ (by omega)
      · simp [D.noi, D.nois, hbo.noi, ai]
      · simp only [nodes, nodesL]; omega
      · simp only [D.depth, D.depths]; omega
      · have z1 := hbo.sz
        have z2 := ha.st.2
        rw [szS_tup]; omega
/-! ### long ones -/
def longD : Nat → D
  | 0 => .str "a"
  | n + 1 => if (n : Int) % 2 = 0 then .tup [.str "gives", longD n, .str "b"] else .tup [.str "and", .str "c", longD n]
def spLg : SpD := fun as Qd _ => ∃ k : Int, as = [.d (.int k)] ∧ 0 ≤ k ∧ k ≤ 1000 ∧ Qd (longD (k / 2).toNat) as
theorem k_long : Keeps 1 3 spLg t__law_long := by
  rintro as Qd Xd - ⟨k, rfl, k0, k1, hq⟩
  have loop : ∀ (len s : Nat) (x2 : S) (De : EndsD), x2.fixd = false → (∀ e, (∃ y, e = [.d (.int k), .d (longD (s + len)), y]) → De.nx e) → forN (dgName 2) b1__law_long (fun x e => Xd x (merge [.d (.int k)] e)) De ((List.range' s len).map fun i => D.int (0 + (i : Nat))) [.d (.int k), .d (longD s), x2] := by
    intro len
    induction len with
    | zero => intro s x2 De _ h; exact h _ ⟨x2, rfl⟩
    | succ len ih =>
      intro s x2 De hx h
      have step : longD (s + 1) = if (s : Int) % 2 = 0 then .tup [.str "gives", longD s, .str "b"] else .tup [.str "and", .str "c", longD s] := rfl
      rw [List.range'_succ, List.map_cons]
      refine ⟨⟨x2, rfl, hx⟩, ?_⟩
      unfold b1__law_long
      walk_at "l3"
      rw [show (0 + (s : Int)) = (s : Int) from Int.zero_add _]
      by_cases c : (s : Int) % 2 = 0
      · rw [if_pos (by simpa using c)]
        rw [if_pos c] at step
        walk_at "l3"
        rw [← step]
        exact ih (s + 1) _ De rfl fun e ⟨y, he⟩ => h e ⟨y, by rw [he]; congr 3; congr 1; omega⟩
      · rw [if_neg (by simpa using c)]
        rw [if_neg c] at step
        walk_at "l3"
        rw [← step]
        exact ih (s + 1) _ De rfl fun e ⟨y, he⟩ => h e ⟨y, by rw [he]; congr 3; congr 1; omega⟩
  unfold t__law_long
  walk_at "l3"
  refine ⟨by omega, by omega, ?_⟩
  unfold rangeD
  rw [List.range_eq_range']
  refine loop _ 0 .no _ rfl ?_
  rintro e ⟨y, rfl⟩
  walk_at "l3"
  rw [Nat.zero_add]
  exact hq
open X1

/-! ### what is heard -/
/-- what is known of the class -/
structure HF (U : XAd) : Prop where
  e1 : U.iE U.v_RunError U.v_BadStatement
  p1 : U.oA "part" U.v_BadStatement
  i_BadCode : U.iv U.v_BadCode U.v_BadStatement = some false
  i_BadCommand : U.iv U.v_BadCommand U.v_BadStatement = some false
  i_BadHouse : U.iv U.v_BadHouse U.v_BadStatement = some false
  i_BadLibrary : U.iv U.v_BadLibrary U.v_BadStatement = some false
  i_BadName : U.iv U.v_BadName U.v_BadStatement = some false
  i_BadNumber : U.iv U.v_BadNumber U.v_BadStatement = some false
  i_BadPaper : U.iv U.v_BadPaper U.v_BadStatement = some false
  i_BadSheet : U.iv U.v_BadSheet U.v_BadStatement = some false
  i_BadStatement : U.iv U.v_BadStatement U.v_BadStatement = some true
  i_BadTerm : U.iv U.v_BadTerm U.v_BadStatement = some false
  i_BadText : U.iv U.v_BadText U.v_BadStatement = some false
  i_BadValue : U.iv U.v_BadValue U.v_BadStatement = some false
  i_Misfit : U.iv U.v_Misfit U.v_BadStatement = some false
  i_Nothing : U.iv U.v_Nothing U.v_BadStatement = some false
  i_PartError : U.iv U.v_PartError U.v_BadStatement = some true
  i_TooMany : U.iv U.v_TooMany U.v_BadStatement = some false
def hvL (d : D) : D := .lst [d]
def hxL (U : XAd) (x : XV) : Option D := if x.C = U.v_BadStatement then some (.tup [.str "statement", x.xs.headD .non]) else none
theorem of1_mono {U : XAd} {R : D → D → Prop} {ds : List D} {P P' : D → Prop} {Z Z' : XV → Prop} (h : tauOf (spOf1 U R) ds P Z) (hp : ∀ d, P d → P' d) (hz : Z ⟨U.v_BadStatement, ["part"], [.str "statement"]⟩ → Z' ⟨U.v_BadStatement, ["part"], [.str "statement"]⟩) : tauOf (spOf1 U R) ds P' Z' := by
  obtain ⟨d, e, ok, h1, h2⟩ := h
  exact ⟨d, e, ok, fun hs r hr => hp _ (h1 hs r hr), fun hs => hz (h2 hs)⟩
theorem x_bd {te : TDE} {acc : List D} {e : List S} {k : List D → List S → Prop} (h : te XF e fun ρ e4 => ∃ d, see e4 ρ = some d ∧ acc.length < 1000000 ∧ k (acc ++ [d]) (fz e4 ρ)) : bdE te acc e k := h
theorem x_isC2 {C : Addr} {iv iu : Addr → Option Bool} {fs : List Str} {xs : List D} {b b' : Bool} {Qr : R → Prop} (h0 : iv C = some b) (h1 : iu C = some b') (h : Qr (.d (.bl (b || b')))) : r31IsC2 iv iu (excD C fs xs) Qr := ⟨C, fs, xs, b, b', rfl, h0, h1, h⟩
theorem lc_sel {Q : List D → List S → Prop} {a0 a1 a2 : S} : ∀ (ps : List (Str × Bool)) (acc : List D), acc.length + ps.length ≤ 1000 → Q (acc ++ (ps.filter (·.2)).map fun p => .str p.1) [a0, a1, a2, .no, .no] →
    lcN (dgTup 2 (dgCons (dgName 3) (dgCons (dgName 4) dgNil))) (dB (dVar 4)) (bdE (dVar 3)) [3, 4] Q (ps.map fun p => .tup [.str p.1, .bl p.2]) acc [a0, a1, a2, .no, .no]
  | [], acc, _, h => by simpa [lcN] using h
  | (w, b) :: r, acc, hl, h => by
    simp only [List.length_cons] at hl
    rw [List.map_cons]
    unfold lcN
    walk_at "l3"
    cases b with
    | true =>
      rw [if_pos rfl]
      refine x_bd ?_
      walk_at "l3"
      refine ⟨by omega, okV2 rfl rfl rfl rfl, ?_⟩
      refine lc_sel r _ (by simp; omega) ?_
      simpa [List.filter_cons] using h
    | false =>
      rw [if_neg Bool.false_ne_true]
      refine ⟨okV2 rfl rfl rfl rfl, ?_⟩
      refine lc_sel r _ (by omega) ?_
      simpa [List.filter_cons] using h
def spPh (U : XAd) : SpD := fun as Qd _ => ∃ p, as = [.d (excD U.v_BadStatement ["part"] [p])] ∧ Qd (.tup [.str "statement", p]) as
theorem k_part_heard {U : XAd} (F : HF U) : Keeps 1 5 (spPh U) (t__law_part_heard U) := by
  rintro as Qd Xd - ⟨p, rfl, hq⟩
  have := F.i_BadCode
  have := F.i_BadCommand
  have := F.i_BadHouse
  have := F.i_BadLibrary
  have := F.i_BadName
  have := F.i_BadNumber
  have := F.i_BadPaper
  have := F.i_BadSheet
  have := F.i_BadStatement
  have := F.i_BadTerm
  have := F.i_BadText
  have := F.i_BadValue
  have := F.i_Misfit
  have := F.i_Nothing
  have := F.i_PartError
  have := F.i_TooMany
  unfold t__law_part_heard
  walk_at "l3"
  unfold dLc
  walk_at "l3"
  refine ⟨okV2 rfl rfl rfl rfl, lc_sel [("statement", true), ("sheet", false), ("term", false), ("house", false), ("code", false), ("value", false), ("number", false), ("paper", false), ("library", false), ("misfit", false)] [] (by decide) ?_⟩
  walk_at "l3"
  refine x_fld F.p1 rfl ?_
  walk_at "l3"
  exact hq
theorem k_heard {U : XAd} (F : HF U) {R : D → D → Prop} (f : Addr) (ds : List D) (Qd : D → Prop) (h : tauOf (spOf1 U R) ds (fun d => Qd (hvL d)) (fun x => ∃ r, hxL U x = some r ∧ Qd r)) :
    t__law_heard U f (tauOf (spOf1 U R) ds) (spPh U) (fun _ _ => False) { nx := fun _ => Qd .non, rt := fun d _ => Qd d } (startE 4 [.d (fnD f)]) := by
  unfold t__law_heard
  walk_at "l3"
  refine of1_mono h (fun d hd => ?_) (fun hz => ?_)
  · walk_at "l3"
    exact hd
  · obtain ⟨r, hr, hq⟩ := hz
    have := F.i_BadCode
    have := F.i_BadCommand
    have := F.i_BadHouse
    have := F.i_BadLibrary
    have := F.i_BadName
    have := F.i_BadNumber
    have := F.i_BadPaper
    have := F.i_BadSheet
    have := F.i_BadStatement
    have := F.i_BadTerm
    have := F.i_BadText
    have := F.i_BadValue
    have := F.i_Misfit
    have := F.i_Nothing
    have := F.i_PartError
    have := F.i_TooMany
    refine ⟨F.e1, ⟨_, rfl, rfl⟩, ⟨_, rfl, rfl⟩, ?_⟩
    walk_at "l3"
    refine x_isC2 F.i_BadName F.i_BadCommand ?_
    walk_at "l3"
    refine ⟨_, rfl, ?_⟩
    walk_at "l3"
    unfold hxL at hr
    rw [if_pos rfl] at hr
    cases hr
    exact hq
open X1

/-! ### rows of texts in order are one -/
theorem lt_trans' : ∀ a b c : List Nat, ltCps b a = false → ltCps c b = false → ltCps c a = false
  | [], [], [], _, _ => rfl
  | [], [], _ :: _, _, h => h
  | [], _ :: _, [], _, h => by simp [ltCps] at h
  | [], _ :: _, _ :: _, _, _ => rfl
  | _ :: _, [], _, h, _ => by simp [ltCps] at h
  | _ :: _, _ :: _, [], _, h => by simp [ltCps] at h
  | a :: r, b :: t, c :: u, h1, h2 => by
    simp only [ltCps, Bool.or_eq_false_iff, decide_eq_false_iff_not, Bool.and_eq_false_iff, beq_eq_false_iff_ne] at h1 h2 ⊢
    obtain ⟨p1, p2⟩ := h1
    obtain ⟨q1, q2⟩ := h2
    refine ⟨by omega, ?_⟩
    by_cases e : c = a
    · have e1 : b = a := by omega
      have e2 : c = b := by omega
      right
      exact lt_trans' r t u (p2.resolve_left fun z => z e1) (q2.resolve_left fun z => z e2)
    · exact .inl e
theorem lt_anti : ∀ a b : List Nat, ltCps a b = false → ltCps b a = false → a = b
  | [], [], _, _ => rfl
  | [], _ :: _, h, _ => by simp [ltCps] at h
  | _ :: _, [], _, h => by simp [ltCps] at h
  | a :: r, b :: t, h1, h2 => by
    simp only [ltCps, Bool.or_eq_false_iff, decide_eq_false_iff_not, Bool.and_eq_false_iff, beq_eq_false_iff_ne] at h1 h2
    obtain ⟨p1, p2⟩ := h1
    obtain ⟨q1, q2⟩ := h2
    have e : a = b := by omega
    rw [e, lt_anti r t (p2.resolve_left fun z => z e) (q2.resolve_left fun z => z e.symm)]
def leT (x y : Str) : Prop := ltCps y.cps.toList x.cps.toList = false
theorem leT_anti {x y : Str} (h1 : leT x y) (h2 : leT y x) : x = y := by
  have e := lt_anti _ _ h2 h1
  cases x
  cases y
  simp only [Str.mk.injEq]
  exact Array.toList_inj.mp e
theorem rising_le : ∀ (l : List Str) (p : Str), risingS p l = true → (∀ x ∈ l, leT p x) ∧ sortedS l = true
  | [], p, _ => ⟨by simp, rfl⟩
  | x :: r, p, h => by
    simp only [risingS, Bool.and_eq_true, Bool.not_eq_true'] at h
    obtain ⟨h1, h2⟩ := h
    obtain ⟨i1, i2⟩ := rising_le r x h2
    refine ⟨fun y hy => ?_, h2⟩
    rcases List.mem_cons.mp hy with rfl | hy
    · exact h1
    · exact lt_trans' _ _ _ h1 (i1 y hy)
theorem srt_one : ∀ (ys zs : List Str), sortedS ys = true → sortedS zs = true → ys.Nodup → zs.Nodup → (∀ z, z ∈ ys ↔ z ∈ zs) → ys = zs
  | [], [], _, _, _, _, _ => rfl
  | [], z :: r, _, _, _, _, h => by have := (h z).mpr (by simp); simp at this
  | y :: r, [], _, _, _, _, h => by have := (h y).mp (by simp); simp at this
  | y :: r, z :: t, h1, h2, n1, n2, h => by
    obtain ⟨l1, s1⟩ := rising_le r y h1
    obtain ⟨l2, s2⟩ := rising_le t z h2
    obtain ⟨m1, k1⟩ := List.nodup_cons.mp n1
    obtain ⟨m2, k2⟩ := List.nodup_cons.mp n2
    have e : y = z := by
      rcases List.mem_cons.mp ((h y).mp (by simp)) with e | hy
      · exact e
      · rcases List.mem_cons.mp ((h z).mpr (by simp)) with e | hz
        · exact e.symm
        · exact leT_anti (l1 z hz) (l2 y hy)
    subst e
    congr 1
    refine srt_one r t s1 s2 k1 k2 fun x => ⟨fun hx => ?_, fun hx => ?_⟩
    · rcases List.mem_cons.mp ((h x).mp (List.mem_cons_of_mem _ hx)) with e | q
      · exact absurd (e ▸ hx) m1
      · exact q
    · rcases List.mem_cons.mp ((h x).mpr (List.mem_cons_of_mem _ hx)) with e | q
      · exact absurd (e ▸ hx) m2
      · exact q
theorem Srt.one {ys zs l : List Str} (a : Srt ys l) (b : Srt zs l) : ys = zs :=
  srt_one ys zs a.1 b.1 a.2.1 b.2.1 fun z => by rw [a.2.2 z, b.2.2 z]
/-! ### small facts -/
theorem nois_strs : ∀ ys : List Str, D.nois (ys.map D.str) = true
  | [] => rfl
  | _ :: r => by simp only [List.map_cons, D.nois, nois_strs r]; rfl
theorem flats_strs : ∀ ys : List Str, D.flats (ys.map D.str) = true
  | [] => rfl
  | _ :: r => by simp only [List.map_cons, D.flats, flats_strs r]; rfl
theorem depths_strs : ∀ ys : List Str, D.depths (ys.map D.str) = 0
  | [] => rfl
  | _ :: r => by simp only [List.map_cons, D.depths, depths_strs r]; rfl
mutual
theorem dp_flat : ∀ d : D, d.flat = true → (dpD d).flat = true
  | .lst xs, h => by simp only [dpD, D.flat] at h ⊢; exact dps_flat xs h
  | .tup xs, h => by simp only [dpD, D.flat] at h ⊢; exact dps_flat xs h
  | .non, h | .bl _, h | .int _, h | .str _, h | .dct _ _, h | .ins _ _ _, h => h
theorem dps_flat : ∀ xs : List D, D.flats xs = true → D.flats (dpDs xs) = true
  | [], _ => rfl
  | x :: r, h => by
    simp only [D.flats, dpDs, Bool.and_eq_true] at h ⊢
    exact ⟨dp_flat x h.1, dps_flat r h.2⟩
end
theorem ne_of {d : D} (h1 : d.noi = true) (h2 : d.flat = true) (h3 : d.depth ≤ 100) (h4 : d.isDct = false) : (eqOk d d && !d.isDct && !d.isDct) = true := by
  rw [h4]
  unfold eqOk
  rw [h1, h2]
  simp
  omega
def pK (x : D) : Bool := (kndO x).isSome
theorem strs_knd : ∀ xs : List D, (∀ x ∈ xs, ∃ m, TS m x) → strsOf (xs.filter pK) = some (knd xs)
  | [], _ => rfl
  | x :: r, h => by
    have ih := strs_knd r fun y hy => h y (by simp [hy])
    obtain ⟨m, hm⟩ := h x (by simp)
    rcases hm.cas with ⟨z, _, rfl, hz⟩ | ⟨w, a, b, i, j, _, rfl, _⟩
    · by_cases q : isYN z = true
      · have e : kndO (.str z) = none := by simp [kndO, q]
        have e2 : pK (.str z) = false := by simp [pK, e]
        have e3 : knd (.str z :: r) = knd r := by unfold knd; rw [List.filterMap_cons, e]
        rw [List.filter_cons, e2, e3]
        exact ih
      · have e : kndO (.str z) = some z := by simp [kndO, q]
        have e2 : pK (.str z) = true := by simp [pK, e]
        have e3 : knd (.str z :: r) = z :: knd r := by unfold knd; rw [List.filterMap_cons, e]
        rw [List.filter_cons, e2, e3]
        show (strsOf (r.filter pK)).map (z :: ·) = _
        rw [ih]
        rfl
    · have e3 : knd (.tup [.str w, a, b] :: r) = knd r := by unfold knd; rw [List.filterMap_cons]; rfl
      rw [List.filter_cons, e3]
      exact ih
theorem filter_emp {α : Type} (p : α → Bool) (l : List α) : (l.filter p).isEmpty = !l.any p := by
  induction l with
  | nil => rfl
  | cons x r ih =>
    rw [List.filter_cons, List.any_cons]
    cases p x with
    | true => rfl
    | false => simpa using ih
theorem x_kw {m n kn : Nat} {g : GK} {sp : SpD} {t tk : TDA} {Xd : XD} {e : List S} {Q : R → List S → Prop} (h : t Xd e fun as e1 => ∃ ds, dats as = some ds ∧ tk Xd e1 fun bs e2 => ∃ zs, dats bs = some zs ∧ ds.length = n ∧ zs.length = kn ∧ (g ds zs).length = m ∧
  sp ((g ds zs).map S.d) (fun d _ => Q (.d d) e2) (fun x _ => Xd x e2)) : dKw m n kn g sp t tk Xd e Q := h
theorem x_isnot_b {a b : Bool} {Qr : R → Prop} (h : Qr (.d (.bl (!decide (a = b))))) : r3IsNot (.bl a) (.bl b) Qr := .inr ⟨a, b, rfl, rfl, h⟩
theorem x_hd {n : Nat} {sp : SpD} {las : List LA} {hv : D → D} {hx : XV → Option D} {Xd : XD} {e : List S} {Q : R → List S → Prop} {ds : List D} (h0 : laD las e = some ds) (h1 : ds.length = n) (h : tauOf sp ds (fun d => Q (.d (hv d)) e) (fun x => ∃ r, hx x = some r ∧ Q (.d r) e)) : dHeard n sp las hv hx Xd e Q := ⟨ds, h0, h1, h⟩
open X1

/-! ### a turn of the law -/
def EnvL (sc : D) (N : Nat) (e : List S) : Prop := ∃ (m : Nat) (s2 s3 s4 s5 s6 s7 s8 s9 s10 s11 s12 : S), m ≤ N ∧ e = [.d sc, .well m, s2, s3, s4, s5, s6, s7, s8, s9, s10, s11, s12, .no, .no, .no] ∧
  s2.fixd = false ∧ s3.fixd = false ∧ s4.fixd = false ∧ s5.fixd = false ∧ s6.fixd = false ∧ s7.fixd = false ∧ s8.fixd = false ∧ s9.fixd = false ∧ s10.fixd = false ∧ s11.fixd = false ∧ s12.fixd = false
def sizesL : List D := [.int 1, .int 3, .int 7, .int 15, .int 23]
theorem sizes_mem {d : D} (h : d ∈ sizesL) : ∃ i : Int, d = .int i ∧ 1 ≤ i ∧ i ≤ 23 := by
  simp only [sizesL, List.mem_cons, List.not_mem_nil, or_false] at h
  rcases h with rfl | rfl | rfl | rfl | rfl <;> exact ⟨_, rfl, by decide, by decide⟩
theorem pr_bl (b : Bool) : PrOk (.bl b) := ⟨rfl, by cases b <;> decide +kernel, by cases b <;> decide +kernel, by cases b <;> decide +kernel, by cases b <;> decide +kernel⟩
theorem pr_bls (b : Bool) : PrOk (.lst [.bl b, .bl b]) := ⟨rfl, by cases b <;> decide +kernel, by cases b <;> decide +kernel, by cases b <;> decide +kernel, by cases b <;> decide +kernel⟩
theorem ne_str (z : Str) : (eqOk (.str z) (.str z) && !(D.str z).isDct && !(D.str z).isDct) = true := by simp [eqOk, D.noi, D.flat, D.depth, D.isDct]
def B1 (U : XAd) : TDS :=
(dSet 3 (dCallR 2 spKds (dRef 1 (dCons (dBin r3Plus (dC (.int (1))) (dCallR 2 spDraw (dRef 1 (dCons (dC (.int (3))) dNil)))) dNil))))
def B2 (U : XAd) : TDS :=
(dSet 4 (dCallR 4 (spLs 23) (dRef 1 (dCons (dVar 3) (dCons (dCallR 2 spOne (dRef 1 (dCons (dLst (dCons (dC (.int (1))) (dCons (dC (.int (3))) (dCons (dC (.int (7))) (dCons (dC (.int (15))) (dCons (dC (.int (23))) dNil)))))) dNil))) (dCons (dBin r3Eq (dCallR 2 spDraw (dRef 1 (dCons (dC (.int (2))) dNil))) (dC (.int (0)))) dNil))))))
def B3 (U : XAd) : TDS :=
(dPar 5 6 (dCall 1 (spPt 23) [] (dCons (dVar 4) dNil)) (dCall 1 (spDp 40) [] (dCons (dVar 4) dNil)))
def B4 (U : XAd) : TDS :=
(dIfS (dOr (dB (dBin r3IsNot (dCall 1 sp_is_statement [] (dCons (dVar 4) dNil)) (dC (.bl true))))
   (dOr (dB (dBin r3IsNot (dKw 1 0 1 gId sp_is_statement dNil (dCons (dVar 6) dNil)) (dC (.bl true))))
   (dOr (dB (dBin r3Ne (dUn r31Repr (dCall 1 (spOf1 U rParts) [] (dCons (dVar 6) dNil))) (dUn r31Repr (dUn r31Tuple (dVar 5)))))
   (dB (dBin r3Ne (dKw 1 0 1 gId (spOf1 U rParts) dNil (dCons (dVar 4) dNil)) (dUn r31Tuple (dVar 5)))))))
  (dRet (dC (.bl false)))
  dNext)
def B5 (U : XAd) : TDS :=
(dIfS (dOr (dB (dBin r3Ne (dLst (dCons (dCall 1 (spOf1 U rSize) [] (dCons (dVar 4) dNil)) (dCons (dKw 1 0 1 gId (spOf1 U rSize) dNil (dCons (dVar 6) dNil)) dNil))) (dBin r3Star (dLst (dCons (dUn r31Len (dVar 5)) dNil)) (dC (.int (2))))))
   (dB (dBin r3Ne (dVar 6) (dCall 1 (spDp 40) [] (dCons (dVar 4) dNil)))))
  (dRet (dC (.bl false)))
  dNext)
def B6 (U : XAd) : TDS :=
(dSet 7 (dUn r31Tuple (dUn r31SortSet (dLc (diSeq (dVar 5)) (dgName 13) (dAnd (dB (dUn (r31Isi ["str"]) (dVar 13)))
   (dB (dBin r3NotIn (dVar 13) (dTup (dCons (dC (.str "yes")) (dCons (dC (.str "no")) dNil)))))) (dVar 13) [13]))))
def B7 (U : XAd) : TDS :=
(dIfS (dB (dBin r3Ne (dLst (dCons (dCall 1 (spOf1 U rKinds) [] (dCons (dVar 4) dNil)) (dCons (dKw 1 0 1 gId (spOf1 U rKinds) dNil (dCons (dVar 6) dNil)) dNil))) (dBin r3Star (dLst (dCons (dVar 7) dNil)) (dC (.int (2))))))
  (dRet (dC (.bl false)))
  dNext)
def B8 (U : XAd) : TDS :=
(dSet 8 (dBin r3Eq (dLc (diSeq (dVar 5)) (dgName 13) (dOr (dB (dBin r3Eq (dVar 13) (dC (.str "no"))))
   (dAnd (dB (dBin r3Eq (dBin r3Ix (dVar 13) (dC (.int (0)))) (dC (.str "or"))))
   (dNot (dB (dUn (r31Isi ["str"]) (dVar 13)))))) (dVar 13) [13]) (dLst dNil)))
def B9 (U : XAd) : TDS :=
(dIfS (dB (dBin r3Ne (dUn r31Repr (dLst (dCons (dCall 1 (spOf1 U rPlain) [] (dCons (dVar 4) dNil)) (dCons (dKw 1 0 1 gId (spOf1 U rPlain) dNil (dCons (dVar 6) dNil)) dNil)))) (dUn r31Repr (dBin r3Star (dLst (dCons (dVar 8) dNil)) (dC (.int (2)))))))
  (dRet (dC (.bl false)))
  dNext)
def B10 (U : XAd) : TDS :=
(dSet 12 (dCallR 2 (spBn 23) (dRef 1 (dCons (dVar 4) dNil))))
def B11 (U : XAd) : TDS :=
(dSet 9 (dAndV (dCall 1 (spIs 40) [] (dCons (dVar 12) dNil))
   (dBin r3Lt (dUn r31Len (dCall 1 (spFl 30) [] (dCons (dVar 12) dNil))) (dC (.int (25))))))
def B12 (U : XAd) : TDS :=
(dIfS (dB (dBin r3Ne (dUn r31Repr (dCall 1 sp_is_statement [] (dCons (dVar 12) dNil))) (dUn r31Repr (dVar 9))))
  (dRet (dC (.bl false)))
  dNext)
def B13 (U : XAd) : TDS :=
(dSet 10 (dLst (dCons (dHeard 1 (spOf1 U rParts) [.v 12] hvL (hxL U)) (dCons (dHeard 1 (spOf1 U rSize) [.v 12] hvL (hxL U)) (dCons (dHeard 1 (spOf1 U rKinds) [.v 12] hvL (hxL U)) (dCons (dHeard 1 (spOf1 U rPlain) [.v 12] hvL (hxL U)) dNil))))))
def B14 (U : XAd) : TDS :=
(dIfS (dOr (dAnd (dNot (dB (dVar 9)))
   (dB (dBin r3Ne (dVar 10) (dBin r3Star (dLst (dCons (dTup (dCons (dC (.str "statement")) (dCons (dC (.str "statement")) dNil))) dNil)) (dC (.int (4)))))))
   (dAnd (dB (dVar 9))
   (dB (dBin r3Ne (dLc (diSeq (dVar 10)) (dgName 14) (dNot (dB (dUn (r31Isi ["list"]) (dVar 14)))) (dC (.int (1))) [14]) (dLst dNil)))))
  (dRet (dC (.bl false)))
  dNext)
theorem B_eq (U : XAd) : b1_law (hvL) ((hxL U)) ((spWell 60)) (spKds) (spDraw) ((spLs 23)) (spOne) ((spPt 23)) ((spDp 40)) (sp_is_statement) ((spOf1 U rParts)) ((spOf1 U rSize)) ((spOf1 U rKinds)) ((spOf1 U rPlain)) ((spBn 23)) ((spIs 40)) ((spFl 30)) (spLg) = dSeq (B1 U) (dSeq (B2 U) (dSeq (B3 U) (dSeq (B4 U) (dSeq (B5 U) (dSeq (B6 U) (dSeq (B7 U) (dSeq (B8 U) (dSeq (B9 U) (dSeq (B10 U) (dSeq (B11 U) (dSeq (B12 U) (dSeq (B13 U) (B14 U))))))))))))) := rfl

theorem rep2 (x : D) : repD 2 [x] = [x, x] := rfl
theorem rep4 (x : D) : repD 4 [x] = [x, x, x, x] := rfl
structure Fx (k : Nat) (d : D) : Prop where
  ts : TS k d
  k23 : k ≤ 23
  ok : okD d
  st : stLoop 24 [d] = true
  pok : okD (dpD d)
  pst : stLoop 24 [dpD d] = true
  pfx : fxD (dpD d) = d
  dfx : fxD d = d
  pts : partsL 24 [d] = partsD d
  pl : (partsD d).length = k
theorem fx_of {k : Nat} {d : D} (hd : TS k d) (k23 : k ≤ 23) : Fx k d := by
  have dok := hd.ok (by omega)
  have st : stLoop 24 [d] = true := by
    rw [st24, hd.st.1, hd.st.2]
    simp
    omega
  have pst : stLoop 24 [dpD d] = true := by
    rw [st24, hd.dst.1, hd.dst.2]
    simp
    omega
  exact ⟨hd, k23, dok, st, dp_ok dok, pst, by rw [fx_dp, hd.fx], hd.fx, parts24 st, hd.plen⟩
theorem Fx.psm {k : Nat} {d : D} (F : Fx k d) : Sm (k + 1) (k * (12 * k + 1) + k) (.tup (partsD d)) := by
  have q := Sm.tupN (n := k) (m := 12 * k) (xs := partsD d) fun x hx => by
    obtain ⟨m, hm, hx⟩ := F.ts.parts x hx
    exact hx.sm.mono hm (by omega)
  rw [F.pl] at q
  exact q
section
variable {U : XAd} {sc d o : D} {Xd : XD} {De : EndsD} {n k : Nat} {s2 s3 s4 s5 s6 s7 s8 s9 s10 s11 s12 : S} {r : List S} {ks : List D} {ys : List Str}
theorem b1 (hn : n + 200 < 2 ^ 38) (f3 : s3.fixd = false) (h : ∀ (ks : List D) (m : Nat), ks ≠ [] → ks.length ≤ 5 → (∀ y ∈ ks, nmB y = true) → m ≤ n + 7 → De.nx (.d sc :: .well m :: s2 :: .d (.lst ks) :: r)) : B1 U Xd De (.d sc :: .well n :: s2 :: s3 :: r) := by
  unfold B1
  walk_at "l3"
  refine ⟨1, [.d (.int 3)], [.int 3], .well n, rfl, rfl, rfl, rfl, rfl, n, 3, rfl, by omega, by omega, by omega, fun v v0 v1 => ?_⟩
  refine ⟨.well (n + 1), [.d (.int 3)], rfl, ?_⟩
  walk_at "l3"
  refine ⟨1, [.d (.int (1 + v))], [.int (1 + v)], .well (n + 1), rfl, rfl, rfl, rfl, rfl, n + 1, 1 + v, rfl, by omega, by omega, by omega, fun ks m1 kne kl kk km => ?_⟩
  refine ⟨.well m1, [.d (.int (1 + v))], rfl, ?_⟩
  walk_at "l3"
  exact h ks m1 kne kl kk (by omega)
theorem b2 (hn : n + 200 < 2 ^ 38) (kne : ks ≠ []) (kl : ks.length ≤ 5) (kk : ∀ y ∈ ks, nmB y = true) (f4 : s4.fixd = false) (h : ∀ (d : D) (k m : Nat), TS k d → k ≤ 23 → m ≤ n + 94 → De.nx (.d sc :: .well m :: s2 :: .d (.lst ks) :: .d d :: r)) : B2 U Xd De (.d sc :: .well n :: s2 :: .d (.lst ks) :: s4 :: r) := by
  unfold B2
  walk_at "l3"
  refine ⟨1, [.d (.lst sizesL)], [.lst sizesL], .well n, rfl, rfl, rfl, rfl, rfl, n, sizesL, rfl, by omega, List.cons_ne_nil _ _, by decide, fun v2 hv2 => ?_⟩
  refine ⟨.well (n + 1), [.d (.lst sizesL)], rfl, ?_⟩
  obtain ⟨size, rfl, z1, z2⟩ := sizes_mem hv2
  walk_at "l3"
  refine ⟨1, [.d (.int 2)], [.int 2], .well (n + 1), rfl, rfl, rfl, rfl, rfl, n + 1, 2, rfl, by omega, by omega, by omega, fun v3 v30 v31 => ?_⟩
  refine ⟨.well (n + 1 + 1), [.d (.int 2)], rfl, ?_⟩
  walk_at "l3"
  refine ⟨1, [.d (.lst ks), .d (.int size), .d (.bl (v3 == 0))], [.lst ks, .int size, .bl (v3 == 0)], .well (n + 1 + 1), rfl, rfl, rfl, rfl, rfl, n + 1 + 1, ks, size, v3 == 0, rfl, by omega, by omega, by omega, by omega, kne, kl, kk, fun d k m2 hd hk hm2 => ?_⟩
  refine ⟨.well m2, [.d (.lst ks), .d (.int size), .d (.bl (v3 == 0))], rfl, ?_⟩
  walk_at "l3"
  exact h d k m2 hd (by omega) (by omega)
theorem b3 (F : Fx k d) (f5 : s5.fixd = false) (f6 : s6.fixd = false) (h : De.nx (.d sc :: .well n :: s2 :: s3 :: .d d :: .d (.lst (partsD d)) :: .d (dpD d) :: r)) : B3 U Xd De (.d sc :: .well n :: s2 :: s3 :: .d d :: s5 :: s6 :: r) := by
  have k23 := F.k23
  have ddep := F.ts.sm.dep2
  unfold B3
  walk_at "l3"
  refine ⟨d, k, rfl, F.ts, k23, by omega, ?_⟩
  walk_at "l3"
  refine ⟨d, rfl, F.ok, by omega, ?_⟩
  walk_at "l3"
  exact h
theorem b4 (F : Fx k d) (h : De.nx (.d sc :: .well n :: s2 :: s3 :: .d d :: .d (.lst (partsD d)) :: .d (dpD d) :: r)) : B4 U Xd De (.d sc :: .well n :: s2 :: s3 :: .d d :: .d (.lst (partsD d)) :: .d (dpD d) :: r) := by
  have k23 := F.k23
  have kk1 : k * (12 * k + 1) ≤ 23 * (12 * 23 + 1) := Nat.mul_le_mul k23 (by omega)
  have ppr := F.psm.pr (by omega) (by omega)
  have pne := F.psm.ne (by omega)
  have prf := D.eqv_refl F.psm.flat
  unfold B4
  walk_at "l3"
  refine ⟨d, rfl, F.ok, ?_⟩
  walk_at "l3"
  rw [F.st]
  refine x_isnot_b ?_
  walk_at "l3"
  refine x_kw ?_
  walk_at "l3"
  refine ⟨[], rfl, ?_⟩
  walk_at "l3"
  refine ⟨[dpD d], rfl, rfl, rfl, rfl, dpD d, rfl, F.pok, ?_⟩
  walk_at "l3"
  rw [F.pst]
  refine x_isnot_b ?_
  walk_at "l3"
  refine ⟨dpD d, rfl, F.pok, fun _ r hr => ?_, fun z => by rw [F.pst] at z; cases z⟩
  have hr' : r = .tup (partsL 24 [fxD (dpD d)]) := hr
  rw [F.pfx, F.pts] at hr'
  subst hr'
  walk_at "l3"
  refine x_repr ppr ?_
  walk_at "l3"
  refine ⟨_, .inl rfl, ?_⟩
  walk_at "l3"
  refine x_repr ppr ?_
  generalize (toPy (.tup (partsD d))).shown = shw
  walk_at "l3"
  refine x_ne (ne_str shw) ?_
  rw [show D.eqv (.str shw) (.str shw) = true from D.eqv_refl rfl]
  walk_at "l3"
  refine x_kw ?_
  walk_at "l3"
  refine ⟨[], rfl, ?_⟩
  walk_at "l3"
  refine ⟨[d], rfl, rfl, rfl, rfl, d, rfl, F.ok, fun _ r hr => ?_, fun z => by rw [F.st] at z; cases z⟩
  have hr' : r = .tup (partsL 24 [fxD d]) := hr
  rw [F.dfx, F.pts] at hr'
  subst hr'
  walk_at "l3"
  refine ⟨_, .inl rfl, ?_⟩
  walk_at "l3"
  refine x_ne pne ?_
  rw [prf]
  walk_at "l3"
  exact h
theorem b5 (F : Fx k d) (h : De.nx (.d sc :: .well n :: s2 :: s3 :: .d d :: .d (.lst (partsD d)) :: .d (dpD d) :: r)) : B5 U Xd De (.d sc :: .well n :: s2 :: s3 :: .d d :: .d (.lst (partsD d)) :: .d (dpD d) :: r) := by
  have k23 := F.k23
  have pl := F.pl
  have ddep := F.ts.sm.dep2
  have hl5 : (partsD d).length ≤ 1000000 := by omega
  unfold B5
  walk_at "l3"
  refine ⟨d, rfl, F.ok, fun _ r hr => ?_, fun z => by rw [F.st] at z; cases z⟩
  have hr' : r = .int (partsL 24 [fxD d]).length := hr
  rw [F.dfx, F.pts] at hr'
  subst hr'
  walk_at "l3"
  refine x_kw ?_
  walk_at "l3"
  refine ⟨[], rfl, ?_⟩
  walk_at "l3"
  refine ⟨[dpD d], rfl, rfl, rfl, rfl, dpD d, rfl, F.pok, fun _ r hr => ?_, fun z => by rw [F.pst] at z; cases z⟩
  have hr' : r = .int (partsL 24 [fxD (dpD d)]).length := hr
  rw [F.pfx, F.pts] at hr'
  subst hr'
  walk_at "l3"
  refine .inr (.inl ⟨_, 2, rfl, rfl, by decide, by decide, by show 1 * 2 ≤ 1000000; omega, ?_⟩)
  walk_at "l3"
  rw [rep2]
  refine x_ne (by simp [eqOk, D.noi, D.nois, D.flat, D.flats, D.depth, D.depths, D.isDct]) ?_
  rw [show D.eqv (.lst [.int (partsD d).length, .int (partsD d).length]) (.lst [.int (partsD d).length, .int (partsD d).length]) = true from D.eqv_refl rfl]
  walk_at "l3"
  refine ⟨d, rfl, F.ok, by omega, ?_⟩
  walk_at "l3"
  have fl := dp_flat d F.ts.sm.flat
  refine x_ne (ne_of F.pok.noi fl (by rw [dp_depth]; omega) ?_) ?_
  · rcases F.ts.cas with ⟨z, _, rfl, _⟩ | ⟨w, a, b, i, j, _, rfl, _⟩ <;> rfl
  rw [D.eqv_refl fl]
  walk_at "l3"
  exact h
end
open X1

section
variable {U : XAd} {sc d o : D} {Xd : XD} {De : EndsD} {n k : Nat} {s2 s3 s4 s5 s6 s7 s8 s9 s10 s11 s12 : S} {ys : List Str}
theorem b6 (F : Fx k d) (f7 : s7.fixd = false) (h : ∀ ys, Srt ys (knd (partsD d)) → De.nx [.d sc, .well n, s2, s3, .d d, .d (.lst (partsD d)), .d (dpD d), .d (.tup (ys.map D.str)), s8, s9, s10, s11, s12, .no, .no, .no]) :
    B6 U Xd De [.d sc, .well n, s2, s3, .d d, .d (.lst (partsD d)), .d (dpD d), s7, s8, s9, s10, s11, s12, .no, .no, .no] := by
  have k23 := F.k23
  have pl := F.pl
  have kl := knd_len (partsD d)
  have hz := strs_knd (partsD d) fun x hx => let ⟨m, _, h⟩ := F.ts.parts x hx; ⟨m, h⟩
  unfold B6
  walk_at "l3"
  unfold dLc
  walk_at "l3"
  refine ⟨okV1 rfl rfl, lcN_fm 13 (fun x => x) pK _ rfl _ [] (fun x hx Q' q => ?_) (fun x hx _ Q' q => ?_) (by simp; omega) ?_⟩
  · obtain ⟨m, _, hm⟩ := F.ts.parts x hx
    rcases hm.cas with ⟨z, _, rfl, _⟩ | ⟨w, a, b, i, j, _, rfl, _⟩
    · walk_at "l3"
      refine x_notin_t rfl rfl ?_
      walk_at "l3"
      have e : pK (.str z) = !isYN z := by
        unfold pK kndO
        cases hh : isYN z <;> simp [hh]
      rw [e] at q
      exact q
    · walk_at "l3"
      exact q
  · walk_at "l3"
    exact q
  · walk_at "l3"
    refine ⟨_, knd (partsD d), rfl, by rw [List.map_id']; exact hz, by omega, fun ys l pm nd hm hs => ?_⟩
    walk_at "l3"
    refine ⟨_, .inl rfl, ?_⟩
    walk_at "l3"
    exact h ys ⟨hs, pm.nodup_iff.mpr nd, fun z => by rw [pm.mem_iff, hm z]⟩
theorem b7 (F : Fx k d) (hy : Srt ys (knd (partsD d))) (h : De.nx [.d sc, .well n, s2, s3, .d d, .d (.lst (partsD d)), .d (dpD d), .d (.tup (ys.map D.str)), s8, s9, s10, s11, s12, .no, .no, .no]) :
    B7 U Xd De [.d sc, .well n, s2, s3, .d d, .d (.lst (partsD d)), .d (dpD d), .d (.tup (ys.map D.str)), s8, s9, s10, s11, s12, .no, .no, .no] := by
  unfold B7
  walk_at "l3"
  refine ⟨d, rfl, F.ok, fun _ r hr => ?_, fun z => by rw [F.st] at z; cases z⟩
  obtain ⟨y1, h1, rfl⟩ := hr
  rw [F.dfx, F.pts] at h1
  obtain rfl := h1.one hy
  walk_at "l3"
  refine x_kw ?_
  walk_at "l3"
  refine ⟨[], rfl, ?_⟩
  walk_at "l3"
  refine ⟨[dpD d], rfl, rfl, rfl, rfl, dpD d, rfl, F.pok, fun _ r hr => ?_, fun z => by rw [F.pst] at z; cases z⟩
  obtain ⟨y2, h2, rfl⟩ := hr
  rw [F.pfx, F.pts] at h2
  obtain rfl := h2.one h1
  walk_at "l3"
  refine .inr (.inl ⟨_, 2, rfl, rfl, by decide, by decide, by show 1 * 2 ≤ 1000000; omega, ?_⟩)
  walk_at "l3"
  rw [rep2]
  have fl : D.flat (.lst [.tup (y2.map D.str), .tup (y2.map D.str)]) = true := by simp [D.flat, D.flats, flats_strs]
  refine x_ne (ne_of (by simp [D.noi, D.nois, nois_strs]) fl (by simp [D.depth, D.depths, depths_strs]) rfl) ?_
  rw [D.eqv_refl fl]
  walk_at "l3"
  exact h
theorem noOr_str (z : Str) : noOr (.str z) = D.eqv (.str z) (.str "no") := by
  unfold noOr
  simp [c_NO]
theorem b8 (F : Fx k d) (f8 : s8.fixd = false) (h : De.nx [.d sc, .well n, s2, s3, .d d, .d (.lst (partsD d)), .d (dpD d), s7, .d (.bl (isPlain d)), s9, s10, s11, s12, .no, .no, .no]) :
    B8 U Xd De [.d sc, .well n, s2, s3, .d d, .d (.lst (partsD d)), .d (dpD d), s7, s8, s9, s10, s11, s12, .no, .no, .no] := by
  have k23 := F.k23
  have pl := F.pl
  have mil' := mil
  have nn : D.nois ((partsD d).filter noOr) = true := nois_of fun x hx => by
    obtain ⟨m, _, hm⟩ := F.ts.parts x (List.mem_filter.mp hx).1
    exact hm.sm.noi
  unfold B8
  walk_at "l3"
  unfold dLc
  walk_at "l3"
  refine ⟨okV1 rfl rfl, lcN_fm 13 (fun x => x) noOr _ rfl _ [] (fun x hx Q' q => ?_) (fun x hx _ Q' q => ?_) (by simp; omega) ?_⟩
  · obtain ⟨m, _, hm⟩ := F.ts.parts x hx
    have hn := hm.sm.noi
    rcases hm.cas with ⟨z, _, rfl, hz⟩ | ⟨w, a, b, i, j, _, rfl, _⟩
    · rw [noOr_str] at q
      walk_at "l3"
      refine x_eq rfl ?_
      walk_at "l3"
      cases hb : D.eqv (.str z) (.str "no") with
      | true =>
        rw [hb] at q
        walk_at "l3"
        exact q
      | false =>
        rw [hb] at q
        walk_at "l3"
        obtain ⟨_, hz2, hz3⟩ := leafB_o hz
        simp only [smL, Bool.and_eq_true, decide_eq_true_eq] at hz2
        have hs : z.length = z.cps.size := rfl
        have hl : 0 < z.cps.toList.length := by rw [Array.length_toList]; omega
        obtain ⟨c, hc⟩ : ∃ c, atI z.cps.toList 0 = some c := by
          refine ⟨z.cps.toList[0], ?_⟩
          unfold atI ixN
          rw [if_pos (by omega), if_pos (by omega)]
          simp [List.getElem?_eq_getElem hl]
        refine ⟨0, rfl, .inr (.inr ⟨z, c, rfl, by omega, hc, ?_⟩)⟩
        walk_at "l3"
        refine x_eq rfl ?_
        walk_at "l3"
        cases D.eqv (.str ⟨#[c]⟩) (.str "or") with
        | true =>
          walk_at "l3"
          exact q
        | false =>
          walk_at "l3"
          exact q
    · walk_at "l3"
      refine x_eq (eqOk_s hn) ?_
      walk_at "l3"
      refine x_eq rfl ?_
      walk_at "l3"
      have e0 : D.eqv (.tup [.str w, a, b]) c_NO = false := by simp [D.eqv, c_NO]
      have e1 : noOr (.tup [.str w, a, b]) = D.eqv (.str w) (.str "or") := by
        simp only [noOr, e0, Bool.false_or, c_OR]
      rw [e1] at q
      cases hb : D.eqv (.str w) (.str "or") with
      | true =>
        rw [hb] at q
        walk_at "l3"
        exact q
      | false =>
        rw [hb] at q
        walk_at "l3"
        exact q
  · walk_at "l3"
    exact q
  · walk_at "l3"
    rw [List.map_id']
    refine x_eq (eqOk_nil nn) ?_
    rw [eqv_nil, filter_emp]
    walk_at "l3"
    have e : isPlain d = !(partsD d).any noOr := by unfold isPlain; rw [F.pts]
    rw [e] at h
    exact h
theorem b9 (F : Fx k d) (h : De.nx [.d sc, .well n, s2, s3, .d d, .d (.lst (partsD d)), .d (dpD d), s7, .d (.bl (isPlain d)), s9, s10, s11, s12, .no, .no, .no]) :
    B9 U Xd De [.d sc, .well n, s2, s3, .d d, .d (.lst (partsD d)), .d (dpD d), s7, .d (.bl (isPlain d)), s9, s10, s11, s12, .no, .no, .no] := by
  unfold B9
  walk_at "l3"
  refine ⟨d, rfl, F.ok, fun _ r hr => ?_, fun z => by rw [F.st] at z; cases z⟩
  have hr' : r = .bl (isPlain (fxD d)) := hr
  rw [F.dfx] at hr'
  subst hr'
  walk_at "l3"
  refine x_kw ?_
  walk_at "l3"
  refine ⟨[], rfl, ?_⟩
  walk_at "l3"
  refine ⟨[dpD d], rfl, rfl, rfl, rfl, dpD d, rfl, F.pok, fun _ r hr => ?_, fun z => by rw [F.pst] at z; cases z⟩
  have hr' : r = .bl (isPlain (fxD (dpD d))) := hr
  rw [F.pfx] at hr'
  subst hr'
  walk_at "l3"
  refine x_repr (pr_bls _) ?_
  walk_at "l3"
  refine .inr (.inl ⟨_, 2, rfl, rfl, by decide, by decide, by show 1 * 2 ≤ 1000000; omega, ?_⟩)
  walk_at "l3"
  rw [rep2]
  refine x_repr (pr_bls _) ?_
  generalize (toPy (.lst [.bl (isPlain d), .bl (isPlain d)])).shown = shw
  walk_at "l3"
  refine x_ne (ne_str shw) ?_
  rw [show D.eqv (.str shw) (.str shw) = true from D.eqv_refl rfl]
  walk_at "l3"
  exact h
end
open X1

def stD : D := .tup [.str "statement", .str "statement"]
theorem hxL_st (U : XAd) : hxL U ⟨U.v_BadStatement, ["part"], [.str "statement"]⟩ = some stD := by
  unfold hxL
  rw [if_pos rfl]
  rfl
section
variable {U : XAd} {sc d o : D} {Xd : XD} {De : EndsD} {n k : Nat} {s2 s3 s4 s5 s6 s7 s8 s9 s10 s11 s12 : S}
theorem b10 (F : Fx k d) (hn : n + 100 < 2 ^ 39) (f12 : s12.fixd = false) (h : ∀ (o : D) (m : Nat), Ot k o → m ≤ n + 69 → De.nx [.d sc, .well m, s2, s3, .d d, s5, s6, s7, s8, s9, s10, s11, .d o, .no, .no, .no]) :
    B10 U Xd De [.d sc, .well n, s2, s3, .d d, s5, s6, s7, s8, s9, s10, s11, s12, .no, .no, .no] := by
  have k23 := F.k23
  unfold B10
  walk_at "l3"
  refine ⟨1, [.d d], [d], .well n, rfl, rfl, rfl, rfl, rfl, n, d, k, rfl, F.ts, k23, by omega, by omega, fun o m ho hm => ?_⟩
  refine ⟨.well m, [.d d], rfl, ?_⟩
  walk_at "l3"
  exact h o m ho (by omega)
theorem b11 (k23 : k ≤ 23) (ho : Ot k o) (f9 : s9.fixd = false) (h : De.nx [.d sc, .well n, s2, s3, s4, s5, s6, s7, s8, .d (.bl (stLoop 24 [o])), s10, s11, .d o, .no, .no, .no]) :
    B11 U Xd De [.d sc, .well n, s2, s3, s4, s5, s6, s7, s8, s9, s10, s11, .d o, .no, .no, .no] := by
  have ook := ho.ok (by omega)
  have od := ho.low
  have oz := ho.sz
  rw [st24] at h
  unfold B11
  walk_at "l3"
  refine ⟨o, rfl, ook, by omega, ?_⟩
  walk_at "l3"
  cases hs : isSt o with
  | false =>
    rw [hs] at h
    walk_at "l3"
    exact h
  | true =>
    rw [hs, Bool.true_and] at h
    walk_at "l3"
    refine ⟨o, rfl, hs, by omega, by omega, fun xs hx => ?_⟩
    have hl : xs.length ≤ 1000000 := by omega
    walk_at "l3"
    have e : decide ((xs.length : Int) < 25) = decide (szS o < 25) := by
      rw [hx]
      exact decide_eq_decide.mpr (by omega)
    rw [e]
    exact h
theorem b12 (k23 : k ≤ 23) (ho : Ot k o) (h : De.nx [.d sc, .well n, s2, s3, s4, s5, s6, s7, s8, .d (.bl (stLoop 24 [o])), s10, s11, .d o, .no, .no, .no]) :
    B12 U Xd De [.d sc, .well n, s2, s3, s4, s5, s6, s7, s8, .d (.bl (stLoop 24 [o])), s10, s11, .d o, .no, .no, .no] := by
  have ook := ho.ok (by omega)
  unfold B12
  walk_at "l3"
  refine ⟨o, rfl, ook, ?_⟩
  walk_at "l3"
  refine x_repr (pr_bl _) ?_
  walk_at "l3"
  refine x_repr (pr_bl _) ?_
  generalize (toPy (.bl (stLoop 24 [o]))).shown = shw
  walk_at "l3"
  refine x_ne (ne_str shw) ?_
  rw [show D.eqv (.str shw) (.str shw) = true from D.eqv_refl rfl]
  walk_at "l3"
  exact h
theorem b13 (k23 : k ≤ 23) (ho : Ot k o) (f10 : s10.fixd = false)
    (h1 : stLoop 24 [o] = true → ∀ a b c d' : D, De.nx [.d sc, .well n, s2, s3, s4, s5, s6, s7, s8, s9, .ol [.lst [a], .lst [b], .lst [c], .lst [d']], s11, .d o, .no, .no, .no])
    (h2 : stLoop 24 [o] = false → De.nx [.d sc, .well n, s2, s3, s4, s5, s6, s7, s8, s9, .ol [stD, stD, stD, stD], s11, .d o, .no, .no, .no]) :
    B13 U Xd De [.d sc, .well n, s2, s3, s4, s5, s6, s7, s8, s9, s10, s11, .d o, .no, .no, .no] := by
  have ook := ho.ok (by omega)
  unfold B13
  walk_at "l3"
  cases hs : stLoop 24 [o] with
  | true =>
    refine x_hd (ds := [o]) rfl rfl ⟨o, rfl, ook, fun _ a ha => ?_, fun z => by rw [hs] at z; cases z⟩
    walk_at "l3"
    refine x_hd (ds := [o]) rfl rfl ⟨o, rfl, ook, fun _ b hb => ?_, fun z => by rw [hs] at z; cases z⟩
    walk_at "l3"
    refine x_hd (ds := [o]) rfl rfl ⟨o, rfl, ook, fun _ c hc => ?_, fun z => by rw [hs] at z; cases z⟩
    walk_at "l3"
    refine x_hd (ds := [o]) rfl rfl ⟨o, rfl, ook, fun _ d' hd => ?_, fun z => by rw [hs] at z; cases z⟩
    walk_at "l3"
    exact h1 hs a b c d'
  | false =>
    refine x_hd (ds := [o]) rfl rfl ⟨o, rfl, ook, fun z => (by rw [hs] at z; cases z), fun _ => ⟨stD, hxL_st U, ?_⟩⟩
    walk_at "l3"
    refine x_hd (ds := [o]) rfl rfl ⟨o, rfl, ook, fun z => (by rw [hs] at z; cases z), fun _ => ⟨stD, hxL_st U, ?_⟩⟩
    walk_at "l3"
    refine x_hd (ds := [o]) rfl rfl ⟨o, rfl, ook, fun z => (by rw [hs] at z; cases z), fun _ => ⟨stD, hxL_st U, ?_⟩⟩
    walk_at "l3"
    refine x_hd (ds := [o]) rfl rfl ⟨o, rfl, ook, fun z => (by rw [hs] at z; cases z), fun _ => ⟨stD, hxL_st U, ?_⟩⟩
    walk_at "l3"
    exact h2 hs
theorem b14t {a b c d' : D} (h : ∀ s10, s10.fixd = false → De.nx [.d sc, .well n, s2, s3, s4, s5, s6, s7, s8, .d (.bl true), s10, s11, s12, .no, .no, .no]) :
    B14 U Xd De [.d sc, .well n, s2, s3, s4, s5, s6, s7, s8, .d (.bl true), .ol [.lst [a], .lst [b], .lst [c], .lst [d']], s11, s12, .no, .no, .no] := by
  unfold B14
  walk_at "l3"
  unfold dLc
  walk_at "l3"
  refine ⟨okV1 rfl rfl, lcN_fm 14 (fun _ => .int 1) (fun _ => false) _ rfl _ [] (fun x hx Q' q => ?_) (fun x hx z Q' q => by cases z) (by simp) ?_⟩
  · simp only [List.mem_cons, List.not_mem_nil, or_false] at hx
    rcases hx with rfl | rfl | rfl | rfl
    all_goals
      walk_at "l3"
      exact q
  · walk_at "l3"
    refine ne_nil rfl ?_
    walk_at "l3"
    exact h _ rfl
theorem b14f (h : ∀ s10, s10.fixd = false → De.nx [.d sc, .well n, s2, s3, s4, s5, s6, s7, s8, .d (.bl false), s10, s11, s12, .no, .no, .no]) :
    B14 U Xd De [.d sc, .well n, s2, s3, s4, s5, s6, s7, s8, .d (.bl false), .ol [stD, stD, stD, stD], s11, s12, .no, .no, .no] := by
  unfold B14
  walk_at "l3"
  refine .inr (.inl ⟨_, 4, rfl, rfl, by decide, by decide, by show 1 * 4 ≤ 1000000; omega, ?_⟩)
  walk_at "l3"
  rw [rep4]
  refine x_ne (by decide) ?_
  rw [show D.eqv (.lst [stD, stD, stD, stD]) (.lst [.tup [.str "statement", .str "statement"], .tup [.str "statement", .str "statement"], .tup [.str "statement", .str "statement"], .tup [.str "statement", .str "statement"]]) = true by decide]
  walk_at "l3"
  exact h _ rfl
end
open X1

abbrev TBd (U : XAd) : TDS := b1_law hvL (hxL U) (spWell 60) spKds spDraw (spLs 23) spOne (spPt 23) (spDp 40) sp_is_statement (spOf1 U rParts) (spOf1 U rSize) (spOf1 U rKinds) (spOf1 U rPlain) (spBn 23) (spIs 40) (spFl 30) spLg
theorem turn1 {U : XAd} {sc : D} {Xd : XD} {De : EndsD} {n : Nat} {e : List S} (he : EnvL sc n e) (hn : n + 300 < 2 ^ 38) (h : ∀ e, EnvL sc (n + 200) e → De.nx e) : TBd U Xd De e := by
  obtain ⟨m, s2, s3, s4, s5, s6, s7, s8, s9, s10, s11, s12, hm, rfl, f2, f3, f4, f5, f6, f7, f8, f9, f10, f11, f12⟩ := he
  unfold TBd
  rw [B_eq]
  refine x_seq (b1 (U := U) (by omega) f3 fun ks m1 kne kl kk hm1 => ?_)
  refine x_seq (b2 (U := U) (by omega) kne kl kk f4 fun d k m2 hd k23 hm2 => ?_)
  have F := fx_of hd k23
  refine x_seq (b3 (U := U) F f5 f6 ?_)
  refine x_seq (b4 (U := U) F ?_)
  refine x_seq (b5 (U := U) F ?_)
  refine x_seq (b6 (U := U) F f7 fun ys hy => ?_)
  refine x_seq (b7 (U := U) F hy ?_)
  refine x_seq (b8 (U := U) F f8 ?_)
  refine x_seq (b9 (U := U) F ?_)
  refine x_seq (b10 (U := U) F (by omega) f12 fun o m3 ho hm3 => ?_)
  refine x_seq (b11 (U := U) k23 ho f9 ?_)
  refine x_seq (b12 (U := U) k23 ho ?_)
  refine x_seq (b13 (U := U) k23 ho f10 (fun hs a b c d' => ?_) fun hs => ?_)
  · rw [hs]
    refine b14t (U := U) fun s10' f10' => h _ ⟨m3, _, _, _, _, _, _, _, _, _, _, _, by omega, rfl, f2, rfl, rfl, rfl, rfl, rfl, rfl, rfl, f10', f11, rfl⟩
  · rw [hs]
    refine b14f (U := U) fun s10' f10' => h _ ⟨m3, _, _, _, _, _, _, _, _, _, _, _, by omega, rfl, f2, rfl, rfl, rfl, rfl, rfl, rfl, rfl, f10', f11, rfl⟩
theorem EnvL.mono {sc : D} {n m : Nat} {e : List S} (h : EnvL sc n e) (l : n ≤ m) : EnvL sc m e := by
  obtain ⟨k, s2, s3, s4, s5, s6, s7, s8, s9, s10, s11, s12, hm, r⟩ := h
  exact ⟨k, s2, s3, s4, s5, s6, s7, s8, s9, s10, s11, s12, Nat.le_trans hm l, r⟩
theorem turns {U : XAd} {sc : D} {Xd : XD} {De : EndsD} (hn : ∀ e, EnvL sc (2 ^ 37) e → De.nx e) : ∀ (xs : List D) (n : Nat) (e : List S), EnvL sc n e → n + xs.length * 200 + 300 < 2 ^ 37 → forN (dgName 2) (TBd U) Xd De xs e
  | [], n, e, he, hl => hn e (he.mono (by omega))
  | x :: r, n, e, he, hl => by
    rw [List.length_cons] at hl
    obtain ⟨m, s2, s3, s4, s5, s6, s7, s8, s9, s10, s11, s12, hm, rfl, f2, fr⟩ := he
    refine ⟨⟨s2, rfl, f2⟩, ?_⟩
    exact turn1 (n := n) ⟨m, _, s3, s4, s5, s6, s7, s8, s9, s10, s11, s12, hm, rfl, rfl, fr⟩ (by omega) fun e' he' => turns hn r (n + 200) e' he' (by omega)
/-! ### long ones -/
theorem long_ts : ∀ n : Nat, TS (2 * n + 1) (longD n)
  | 0 => .leaf (by decide +kernel)
  | n + 1 => by
    have ih := long_ts n
    unfold longD
    split
    · have q := TS.node (w := "gives") (.inr (.inr rfl)) ih (TS.leaf (z := "b") (by decide +kernel))
      exact q
    · have q := TS.node (w := "and") (.inl rfl) (TS.leaf (z := "c") (by decide +kernel)) ih
      have e : 1 + (2 * n + 1) + 1 = 2 * (n + 1) + 1 := by omega
      rw [e] at q
      exact q
theorem long_depth : ∀ n : Nat, (longD n).depth ≤ n
  | 0 => Nat.le_refl _
  | n + 1 => by
    have ih := long_depth n
    unfold longD
    split <;> simp only [D.depth, D.depths] <;> omega
theorem long_ok {n : Nat} (h : n ≤ 100) : okD (longD n) := by
  have q := long_ts n
  refine ⟨q.sm.noi, ?_, ?_⟩
  · have := q.nod; omega
  · have := long_depth n; omega
theorem long_st (n : Nat) : stLoop 24 [longD n] = decide (2 * n + 1 < 25) := by
  rw [st24, (long_ts n).st.1, (long_ts n).st.2]
  rfl
def gF : D → D
  | .int k => longD (k / 2).toNat
  | d => d
theorem great_eq : [D.int 21, .int 23, .int 25, .int 27, .int 201].map gF = [longD 10, longD 11, longD 12, longD 13, longD 100] := by
  simp only [List.map_cons, List.map_nil, gF]
  rfl
theorem k_law (U : XAd) : KeepsT 1 16 spLawD (t_law hvL (hxL U) (spWell 60) spKds spDraw (spLs 23) spOne (spPt 23) (spDp 40) sp_is_statement (spOf1 U rParts) (spOf1 U rSize) (spOf1 U rKinds) (spOf1 U rPlain) (spBn 23) (spIs 40) (spFl 30) spLg) := by
  rintro as Qd Xd - ⟨ns, rfl, hl, hq⟩
  unfold t_law
  walk_at "l3"
  unfold dCallW
  walk_at "l3"
  refine ⟨[scrD (ns.map D.int)], rfl, rfl, ns, rfl, by omega, ⟨ns.take 60, 0, 0, rfl, Nat.le_trans (List.length_take_le _ _) (by decide), by decide, by decide, by decide⟩, ?_⟩
  walk_at "l3"
  refine ⟨by decide, by decide, ?_⟩
  refine turns (fun e he => ?_) (rangeD 0 8) 0 _ ⟨0, .no, .no, .no, .no, .no, .no, .no, .no, .no, .no, .no, Nat.le_refl _, rfl, rfl, rfl, rfl, rfl, rfl, rfl, rfl, rfl, rfl, rfl, rfl⟩ (by simp [rangeD])
  obtain ⟨n, s2, s3, s4, s5, s6, s7, s8, s9, s10, s11, s12, hn, rfl, f2, f3, f4, f5, f6, f7, f8, f9, f10, f11, f12⟩ := he
  walk_at "l3"
  unfold dLc
  walk_at "l3"
  refine ⟨okV1 rfl rfl, lcN_map 15 gF _ rfl _ (fun x hx Q' q => ?_) (by decide) ?_⟩
  · simp only [List.mem_cons, List.not_mem_nil, or_false] at hx
    rcases hx with rfl | rfl | rfl | rfl | rfl
    all_goals
      walk_at "l3"
      refine ⟨_, rfl, by decide, by decide, ?_⟩
      exact q
  rw [great_eq]
  have o0 := long_ok (n := 10) (by decide)
  have o1 := long_ok (n := 11) (by decide)
  have o2 := long_ok (n := 12) (by decide)
  have o3 := long_ok (n := 13) (by decide)
  have o4 := long_ok (n := 100) (by decide)
  have t0 : stLoop 24 [longD 10] = true := long_st 10
  have t1 : stLoop 24 [longD 11] = true := long_st 11
  have t2 : stLoop 24 [longD 12] = false := long_st 12
  have t3 : stLoop 24 [longD 13] = false := long_st 13
  have t4 : stLoop 24 [longD 100] = false := long_st 100
  have p1 : (partsL 24 [fxD (longD 11)]).length = 23 := by
    rw [(long_ts 11).fx, parts24 t1, (long_ts 11).plen]
  generalize longD 10 = g0 at o0 t0 ⊢
  generalize longD 11 = g1 at o1 t1 p1 ⊢
  generalize longD 12 = g2 at o2 t2 ⊢
  generalize longD 13 = g3 at o3 t3 ⊢
  generalize longD 100 = g4 at o4 t4 ⊢
  walk_at "l3"
  refine ⟨okV1 rfl rfl, lcN_map 14 (fun x => .bl (stLoop 24 [x])) _ rfl _ (fun x hx Q' q => ?_) (by simp) ?_⟩
  · simp only [List.mem_cons, List.not_mem_nil, or_false] at hx
    walk_at "l3"
    refine ⟨x, rfl, ?_, ?_⟩
    · rcases hx with rfl | rfl | rfl | rfl | rfl <;> assumption
    · exact q
  simp only [List.map_cons, List.map_nil, t0, t1, t2, t3, t4]
  walk_at "l3"
  refine x_ne (by decide) ?_
  rw [show D.eqv (.lst [.bl true, .bl true, .bl false, .bl false, .bl false]) (.lst [.bl true, .bl true, .bl false, .bl false, .bl false]) = true from D.eqv_refl rfl]
  walk_at "l3"
  refine ⟨g1, rfl, o1, fun _ r hr => ?_, fun z => by rw [t1] at z; cases z⟩
  have hr' : r = .int (partsL 24 [fxD g1]).length := hr
  rw [p1] at hr'
  subst hr'
  walk_at "l3"
  refine x_hd (ds := [g2]) rfl rfl ⟨g2, rfl, o2, fun z => (by rw [t2] at z; cases z), fun _ => ⟨stD, hxL_st U, ?_⟩⟩
  walk_at "l3"
  refine x_hd (ds := [g4]) rfl rfl ⟨g4, rfl, o4, fun z => (by rw [t4] at z; cases z), fun _ => ⟨stD, hxL_st U, ?_⟩⟩
  walk_at "l3"
  refine .inr (.inl ⟨_, 2, rfl, rfl, by decide, by decide, by show 1 * 2 ≤ 1000000; omega, ?_⟩)
  walk_at "l3"
  rw [rep2]
  refine x_eq (by decide) ?_
  walk_at "l3"
  exact hq
open X1
theorem d_fixed {P : Program} {w : World} {K : PySem.W.Frag} {mg : Str → Option Value} {base : Heap} {k kis_row : Nat} {sp_is_row : SpD} (T : Tx K w mg)
    (C_is_row : Cal P w K mg base kis_row "is_row" 1 sp_is_row []) (l_is_row : kis_row ≤ k)
    {f : Addr} (cdv : Value) (A : Around) (outer : List Env) (s : Shared) (H : Hp) (E : XK) (c : C0) (hr : Room k (A.deeper (envOfC "fixed" (defScope st_fixed) s.heap.objs.size f cdv)))
    (tk : Takes (cxOf (L2.CX P w) P w K mg base ["value", "done", "line", "one", "parts"] "fixed" (defScope st_fixed) f cdv A outer s H E) (WE0 E)) (ho : PassesOwn (model P w) (cxOf (L2.CX P w) P w K mg base ["value", "done", "line", "one", "parts"] "fixed" (defScope st_fixed) f cdv A outer s H E).A (cxOf (L2.CX P w) P w K mg base ["value", "done", "line", "one", "parts"] "fixed" (defScope st_fixed) f cdv A outer s H E).env (cxOf (L2.CX P w) P w K mg base ["value", "done", "line", "one", "parts"] "fixed" (defScope st_fixed) f cdv A outer s H E).xe) :
    PSs (cxOf (L2.CX P w) P w K mg base ["value", "done", "line", "one", "parts"] "fixed" (defScope st_fixed) f cdv A outer s H E) (defBody st_fixed) (tFixed K (liftT K c (WE0 E) (dNot (dB (dCall 1 sp_is_row [] (dCons (dVar 3) dNil)))))) := by
  have ndN : (cxOf (L2.CX P w) P w K mg base ["value", "done", "line", "one", "parts"] "fixed" (defScope st_fixed) f cdv A outer s H E).N.Nodup := sc_fixed.nd
  refine pss_cons (ps_par rfl ndN (i := 1) (j := 2) rfl rfl (by decide) rfl rfl (pa_cons pe_non (pa_cons (pe_lst (pa_cons (pe_tup (pa_cons (pv 0) (pa_cons pe_non pa_nil))) pa_nil)) pa_nil)) rfl) (pss_cons (ps_while ho (pt_cmpR (op_neL (room200 hr)) (pv 2) (pe_lst pa_nil) (by first | exact nomark _ | rfl)) ?_) (pss_one (ps_ret (pv 1))))
  refine pss_cons (ps_asg (pe_bm0 PySem.F.plainAttrs_list PySem.F.slot_list_pop PySem.F.type_list_pop mt_pop (pv 2)) (pg_tup rfl (pgs_cons (pg_name (i := 3) ndN rfl (by first | exact .inl rfl | exact .inr rfl)) (pgs_cons (pg_name (i := 4) ndN rfl (by first | exact .inl rfl | exact .inr rfl)) pgs_nil)))) (pss_cons (ps_if ((dt_not (dt_val (de_c C_is_row hr l_is_row tk (da_cons (dv 3) da_nil)))).pt) (pss_one (ps_set (i := 1) ndN rfl (by first | exact .inl rfl | exact .inr rfl) (pv 3))) (pss_one (ps_if (pt_cmpR op_isN (pv 4) pe_non (by first | exact nomark _ | rfl)) ?_ ?_))) (pss_one (ps_if (pt_cmpR (op_eqL (room200 hr)) (pv 2) (pe_lst pa_nil) (by first | exact nomark _ | rfl)) (pss_one (ps_ret (pv 1))) pss_nil)))
  · refine pss_cons (ps_expr (pe_bm PySem.F.plainAttrs_list PySem.F.slot_list_append PySem.F.type_list_append mt_append (pv 2) (pa_cons (pe_tup (pa_cons (pv 3) (pa_cons (pe_lst pa_nil) pa_nil))) pa_nil))) (pss_cons (ps_set (i := 1) ndN rfl (by first | exact .inl rfl | exact .inr rfl) pe_non) (pss_cons (ps_if (pt_cmpR op_gt (pe_callB call_len rfl T.z_len bv_len (pa_cons (pv 3) pa_nil)) pe_int (by first | exact nomark _ | rfl)) (pss_cons (ps_expr (pe_bm PySem.F.plainAttrs_list PySem.F.slot_list_append PySem.F.type_list_append mt_append (pv 2) (pa_cons (pe_tup (pa_cons (pe_ix ix_seq (pv 3) pe_int (fun _ _ => rfl)) (pa_cons pe_non pa_nil))) pa_nil))) (pss_one ps_continue)) pss_nil) (pss_cons (ps_expr (pe_bm0 PySem.F.plainAttrs_list PySem.F.slot_list_pop PySem.F.type_list_pop mt_pop (pv 2))) (pss_one (ps_set (i := 1) ndN rfl (by first | exact .inl rfl | exact .inr rfl) (pe_tup pa_nil))))))
  · refine pss_cons (ps_expr (pe_bm PySem.F.plainAttrs_list PySem.F.slot_list_append PySem.F.type_list_append mt_append (pv 4) (pa_cons (pv 1) pa_nil))) (pss_cons (ps_if (pt_cmpR op_lt (pe_callB call_len rfl T.z_len bv_len (pa_cons (pv 4) pa_nil)) (pe_callB call_len rfl T.z_len bv_len (pa_cons (pv 3) pa_nil)) (by first | exact nomark _ | rfl)) (pss_cons (ps_expr (pe_bm PySem.F.plainAttrs_list PySem.F.slot_list_append PySem.F.type_list_append mt_append (pv 2) (pa_cons (pe_tup (pa_cons (pv 3) (pa_cons (pv 4) pa_nil))) pa_nil))) (pss_cons (ps_expr (pe_bm PySem.F.plainAttrs_list PySem.F.slot_list_append PySem.F.type_list_append mt_append (pv 2) (pa_cons (pe_tup (pa_cons (pe_ix ix_seq (pv 3) (pe_callB call_len rfl T.z_len bv_len (pa_cons (pv 4) pa_nil)) (fun _ _ => rfl)) (pa_cons pe_non pa_nil))) pa_nil))) (pss_one ps_continue))) pss_nil) (pss_one (ps_set (i := 1) ndN rfl (by first | exact .inl rfl | exact .inr rfl) (pe_callTy call_tuple_of rfl T.z_tuple bv_tuple (pa_cons (pv 4) pa_nil)))))
open X1
mutual
theorem fx_same : ∀ d : D, Law.fxD d = L3.fxD d
  | .lst xs => congrArg D.tup (fx_sames xs)
  | .tup xs => congrArg D.tup (fx_sames xs)
  | .non | .bl _ | .int _ | .str _ | .dct _ _ | .ins _ _ _ => rfl
theorem fx_sames : ∀ xs : List D, Law.fxDs xs = L3.fxDs xs
  | [] => rfl
  | x :: r => by simp only [Law.fxDs, L3.fxDs, fx_same x, fx_sames r]
end
mutual
theorem wt_nodes : ∀ d : D, wt d + 1 ≤ 4 * nodes d
  | .lst xs => by have := wts_nodes xs; simp only [wt, nodes]; omega
  | .tup xs => by have := wts_nodes xs; simp only [wt, nodes]; omega
  | .non | .bl _ | .int _ => by simp [wt, nodes]
  | .str _ => by simp only [wt, nodes]; omega
  | .dct _ _ => by simp only [wt, nodes]; omega
  | .ins _ _ _ => by simp only [wt, nodes]; omega
theorem wts_nodes : ∀ xs : List D, wts xs ≤ 4 * nodesL xs
  | [] => by simp [wts]
  | x :: r => by have := wts_nodes r; have := wt_nodes x; simp only [wts, nodesL]; omega
end
theorem fixed_sp : ∀ (as : List S) (Qd : D → List S → Prop) (Xd : XV → List S → Prop), sp_fixed as Qd Xd → spFix as Qd Xd := by
  rintro as Qd Xd ⟨d, rfl, ok, q⟩
  refine ⟨d, rfl, ⟨ok.noi, ?_⟩, by rw [← fx_same d]; exact q⟩
  have h1 := wt_nodes d
  have h2 := ok.few
  omega
theorem row_same (d : D) : rowB d = isRow d := by cases d <;> rfl
def retE : List Stmt → Expr
  | [.Return (some e) _] => e
  | _ => .Name "" ⟨0, 0, 0, 0⟩
def retP : List Stmt → Pos
  | [.Return (some _) p] => p
  | _ => ⟨0, 0, 0, 0⟩
section
variable {P : Program} {w : World} {K : PySem.W.Frag} {mg : Str → Option Value} {base : Heap}
/-- a def as it lies -/
structure Raw (K : PySem.W.Frag) (mg : Str → Option Value) (x : Str) (st : Stmt) (dV : Value) (f : Addr) (cdv : Value) : Prop where
  mgf : mg x = some (.ref f)
  kp : PySem.W.keepIn K (.ref f) = true
  lk : ∃ (oc : Value) (od an : Option Addr) (osl : Array (Option Value)) (kV doc pm ct : Value), K.lookup f = some ⟨oc, od, .func (PySem.W.fnOf x x (defArgs st) (defBody st) (defScope st) dV kV doc pm an cdv ct), osl⟩
  code : PySem.W.codeIn K cdv x = true
/-- every def of the module -/
structure All (K : PySem.W.Frag) (mg : Str → Option Value) (U : XAd) (cda : Addr) (fL : Addr) : Prop where
  is_row : ∃ f fd, Dd K mg "is_row" st_is_row ["value"] f fd
  is_name : ∃ f fd, Dd K mg "is_name" st_is_name ["value"] f fd
  fixed : ∃ f fd, Dd K mg "fixed" st_fixed ["value"] f fd
  statement_in : ∃ f fd, Dd K mg "statement_in" st_statement_in ["value"] f fd
  is_statement : ∃ f fd, Dd K mg "is_statement" st_is_statement ["value"] f fd ∧ KBn K fd ["value"] 0 ["value"] (fun us ws => gId us ws) (fun vs zs => gId vs zs)
  need_statement : ∃ f fd, DdF K mg "need_statement" st_need_statement ["value", "part"] [.str "statement"] [.str "statement"] f fd
  parts_in : ∃ f fd, Dd K mg "parts_in" st_parts_in ["statement"] f fd
  kinds_in : ∃ f fd, Dd K mg "kinds_in" st_kinds_in ["statements"] f fd
  is_plain : ∃ f fd, Dd K mg "is_plain" st_is_plain ["statement"] f fd
  parts_of : ∃ f fd, Dd K mg "parts_of" st_parts_of ["statement"] f fd ∧ KBn K fd ["statement"] 0 ["statement"] (fun us ws => gId us ws) (fun vs zs => gId vs zs)
  size_of : ∃ f fd, Dd K mg "size_of" st_size_of ["statement"] f fd ∧ KBn K fd ["statement"] 0 ["statement"] (fun us ws => gId us ws) (fun vs zs => gId vs zs)
  kinds_of : ∃ f fd, Dd K mg "kinds_of" st_kinds_of ["statement"] f fd ∧ KBn K fd ["statement"] 0 ["statement"] (fun us ws => gId us ws) (fun vs zs => gId vs zs)
  is_straight : ∃ f fd, Dd K mg "is_straight" st_is_straight ["statement"] f fd ∧ KBn K fd ["statement"] 0 ["statement"] (fun us ws => gId us ws) (fun vs zs => gId vs zs)
  law_well : ∃ f fd, Dd K mg "_law_well" st__law_well ["script"] f fd
  law_draw : ∃ f fd, Dd K mg "_law_draw" st__law_draw ["well", "many"] f fd
  law_one : ∃ f fd, Dd K mg "_law_one" st__law_one ["well", "some"] f fd
  law_order : ∃ f fd, Dd K mg "_law_order" st__law_order ["well", "some"] f fd
  law_kinds : ∃ f fd, Dd K mg "_law_kinds" st__law_kinds ["well", "many"] f fd
  law_statement : ∃ f fd, Dd K mg "_law_statement" st__law_statement ["well", "kinds", "size", "alone"] f fd
  law_parts : ∃ f fd, Dd K mg "_law_parts" st__law_parts ["statement"] f fd
  law_deep : ∃ f fd, Dd K mg "_law_deep" st__law_deep ["value"] f fd
  law_heard : ∃ f cdv, Raw K mg "_law_heard" st__law_heard .none f cdv
  law_part_heard : ∃ f fd, Dd K mg "_law_part_heard" st__law_part_heard ["caught"] f fd
  law_is_name : ∃ f fd, Dd K mg "_law_is_name" st__law_is_name ["value"] f fd
  law_is_statement : ∃ f fd, Dd K mg "_law_is_statement" st__law_is_statement ["value"] f fd
  law_flat : ∃ f fd, Dd K mg "_law_flat" st__law_flat ["value"] f fd
  law_bent : ∃ f fd, Dd K mg "_law_bent" st__law_bent ["well", "statement"] f fd
  law_long : ∃ f fd, Dd K mg "_law_long" st__law_long ["many"] f fd
  law : Raw K mg "law" st_law .none fL (.ref cda)
theorem gId_ok : GKok gId := ⟨fun h1 h2 => RepDs.append h1 h2⟩
theorem all_ok {U : XAd} {cda Pt fL : Addr} (T : Tx K w mg) (A : All K mg U cda fL) (X : XFa P w K mg base U) (F : HF U) (TB : LamX.TabB base mg cda Pt) {H : Hp} {s : Shared} {a : Addr} {ns : List Int} (hl : ns.length ≤ 63) (hT : H Pt = some (.tbl #[])) (hS : SqL K H a (ns.map V.int)) (e0 : Env0 P w K mg base callerA [] s H) :
    codeAny (model P w) callerA (.call (.ref fL) ⟨[.ref a], []⟩) (CR (L2.CX P w) [] P w H s (fun v _ => v = .bl true) fun _ _ _ => False) s := by
  obtain ⟨f3, fd3, D_is_row⟩ := A.is_row
  have C_is_row : Cal P w K mg base 1 "is_row" 1 sp_is_row [] := D_is_row.cal_of (D_is_row.ok sc_is_row (d_is_row T) k_is_row)
  obtain ⟨f4, fd4, D_is_name⟩ := A.is_name
  have C_is_name : Cal P w K mg base 1 "is_name" 1 sp_is_name [] := D_is_name.cal_of (D_is_name.ok sc_is_name (d_is_name T) k_is_name)
  obtain ⟨f5, fd5, D_fixed⟩ := A.fixed
  have F_fixed : FnOk P w K mg base (L2.CX P w) 2 f5 fd5 ["value"] (spOf K 1 spFix) := fn_fixed D_fixed.fn sc_fixed rfl rfl (fun d Qd Xd h q => ⟨d, rfl, h, by rw [row_same] at q; exact q⟩) (fun d h => noi_isIns h) (fun d y ys h e hy => by
    cases d <;> cases e
    · exact noi_mem (by simpa [D.noi] using h) hy
    · exact noi_mem (by simpa [D.noi] using h) hy) (fun cdv A outer s H E c hr tk ho => d_fixed T C_is_row (Nat.le_refl 1) cdv A outer s H E c hr tk ho)
  have C_fixed : Cal P w K mg base 2 "fixed" 1 sp_fixed [] := D_fixed.cal_of (fn_imp F_fixed fixed_sp)
  obtain ⟨f6, fd6, D_statement_in⟩ := A.statement_in
  have C_statement_in : Cal P w K mg base 3 "statement_in" 1 sp_statement_in [] := D_statement_in.cal_of (D_statement_in.ok sc_statement_in (d_statement_in T C_is_name (by omega) C_fixed (by omega)) k_statement_in)
  obtain ⟨f7, fd7, D_is_st, B_is_st⟩ := A.is_statement
  have F_is_st : FnOk P w K mg base (L2.CX P w) 4 f7 fd7 ["value"] (spOf K 1 sp_is_statement) := D_is_st.ok (k := 3) sc_is_statement (d_is_statement T C_statement_in (by omega)) k_is_statement
  have C_is_st : Cal P w K mg base 4 "is_statement" 1 sp_is_statement [] := D_is_st.cal_of F_is_st
  have K_is_st : CalK P w K mg base 4 "is_statement" 1 0 ["value"] gId sp_is_statement := D_is_st.calK_of F_is_st B_is_st gId_ok
  obtain ⟨f8, fd8, D_need⟩ := A.need_statement
  have C_need : Cal P w K mg base 4 "need_statement" 2 (spNeed U) [.str "statement"] := ddf_cal (n := 1) D_need (ddf_ok (k := 3) D_need.fn sc_need_statement (fun cdv A outer s H E c hr tk ho => d_need_statement T X C_statement_in (by omega) cdv A outer s H E c hr tk ho (by omega)) (k_need U)) (List.cons_ne_nil _ _) rfl
    (fun T kV doc pm an cdv ct us its h1 h2 => match us, its, h1, h2 with | [_], [_], _, _ => ⟨_, rfl, rfl⟩)
  obtain ⟨f9, fd9, D_parts_in⟩ := A.parts_in
  have C_parts_in : Cal P w K mg base 1 "parts_in" 1 sp_parts_in [] := D_parts_in.cal_of (D_parts_in.ok sc_parts_in (d_parts_in T) k_parts_in)
  obtain ⟨f10, fd10, D_kinds_in⟩ := A.kinds_in
  have C_kinds_in : Cal P w K mg base 2 "kinds_in" 1 spKin [] := D_kinds_in.cal_of (D_kinds_in.ok sc_kinds_in (d_kinds_in T C_parts_in (by omega)) k_kinds_in)
  obtain ⟨f11, fd11, D_is_plain⟩ := A.is_plain
  have C_is_plain : Cal P w K mg base 2 "is_plain" 1 sp_is_plain [] := D_is_plain.cal_of (D_is_plain.ok sc_is_plain (d_is_plain T C_parts_in (by omega)) k_is_plain)
  obtain ⟨f12, fd12, D_parts_of, B_parts_of⟩ := A.parts_of
  have F_parts_of : FnOk P w K mg base (L2.CX P w) 5 f12 fd12 ["statement"] (spOf K 1 (spOf1 U rParts)) := D_parts_of.ok (k := 4) sc_parts_of (d_parts_of T C_parts_in (by omega) C_need (by omega)) (k_parts_of U)
  have C_parts_of : Cal P w K mg base 5 "parts_of" 1 (spOf1 U rParts) [] := D_parts_of.cal_of F_parts_of
  have K_parts_of : CalK P w K mg base 5 "parts_of" 1 0 ["statement"] gId (spOf1 U rParts) := D_parts_of.calK_of F_parts_of B_parts_of gId_ok
  obtain ⟨f13, fd13, D_size_of, B_size_of⟩ := A.size_of
  have F_size_of : FnOk P w K mg base (L2.CX P w) 5 f13 fd13 ["statement"] (spOf K 1 (spOf1 U rSize)) := D_size_of.ok (k := 4) sc_size_of (d_size_of T C_parts_in (by omega) C_need (by omega)) (k_size_of U)
  have C_size_of : Cal P w K mg base 5 "size_of" 1 (spOf1 U rSize) [] := D_size_of.cal_of F_size_of
  have K_size_of : CalK P w K mg base 5 "size_of" 1 0 ["statement"] gId (spOf1 U rSize) := D_size_of.calK_of F_size_of B_size_of gId_ok
  obtain ⟨f14, fd14, D_kinds_of, B_kinds_of⟩ := A.kinds_of
  have F_kinds_of : FnOk P w K mg base (L2.CX P w) 5 f14 fd14 ["statement"] (spOf K 1 (spOf1 U rKinds)) := D_kinds_of.ok (k := 4) sc_kinds_of (d_kinds_of T C_kinds_in (by omega) C_need (by omega)) (k_kinds_of U)
  have C_kinds_of : Cal P w K mg base 5 "kinds_of" 1 (spOf1 U rKinds) [] := D_kinds_of.cal_of F_kinds_of
  have K_kinds_of : CalK P w K mg base 5 "kinds_of" 1 0 ["statement"] gId (spOf1 U rKinds) := D_kinds_of.calK_of F_kinds_of B_kinds_of gId_ok
  obtain ⟨f15, fd15, D_is_straight, B_is_straight⟩ := A.is_straight
  have F_is_straight : FnOk P w K mg base (L2.CX P w) 5 f15 fd15 ["statement"] (spOf K 1 (spOf1 U rPlain)) := D_is_straight.ok (k := 4) sc_is_straight (d_is_straight T C_is_plain (by omega) C_need (by omega)) (k_is_straight U)
  have C_is_straight : Cal P w K mg base 5 "is_straight" 1 (spOf1 U rPlain) [] := D_is_straight.cal_of F_is_straight
  have K_is_straight : CalK P w K mg base 5 "is_straight" 1 0 ["statement"] gId (spOf1 U rPlain) := D_is_straight.calK_of F_is_straight B_is_straight gId_ok
  obtain ⟨f16, fd16, D_well⟩ := A.law_well
  have C_well : CalL P w K mg base 1 "_law_well" 1 (spWell 60) := D_well.calL_of (fn_retL D_well.fn sc__law_well (ex := retE (defBody st__law_well)) (pos := retP (defBody st__law_well)) rfl (fun cdv A outer s H E c hr tk ho => by
    obtain ⟨ex, pos, h1, h2⟩ := d__law_well T cdv A outer s H E c hr tk ho
    have e : retE (defBody st__law_well) = ex := by rw [h1]; rfl
    rw [e]
    exact h2) k_well)
  obtain ⟨f17, fd17, D_draw⟩ := A.law_draw
  have F_draw : FnOk P w K mg base (L2.CX P w) 1 f17 fd17 ["well", "many"] (spOf K 2 spDraw) := FnOk.imp (D_draw.ok sc__law_draw (d__law_draw T) k_draw) fun _ _ _ _ h => draw_sp h
  have C_draw : Cal P w K mg base 1 "_law_draw" 2 spDraw [] := D_draw.cal_of F_draw
  obtain ⟨f18, fd18, D_one⟩ := A.law_one
  have C_one : Cal P w K mg base 2 "_law_one" 2 spOne [] := D_one.cal_of (D_one.ok sc__law_one (d__law_one T C_draw (by omega)) k_one)
  obtain ⟨f19, fd19, D_order⟩ := A.law_order
  have C_order : Cal P w K mg base 2 "_law_order" 2 spOrder [] := D_order.cal_of (D_order.ok sc__law_order (d__law_order T C_draw (by omega)) k_order)
  obtain ⟨f20, fd20, D_kinds⟩ := A.law_kinds
  have C_kinds : Cal P w K mg base 3 "_law_kinds" 2 spKds [] := D_kinds.cal_of (D_kinds.ok sc__law_kinds (d__law_kinds T C_order (by omega) C_one (by omega)) k_kinds)
  obtain ⟨f21, fd21, D_stmt⟩ := A.law_statement
  have S0 : FnOk P w K mg base (L2.CX P w) 2 f21 fd21 ["well", "kinds", "size", "alone"] (spOf K 4 fun _ _ _ => False) := fn_none (ps := ["well", "kinds", "size", "alone"]) fun _ _ _ _ h => h
  have St : ∀ n : Nat, FnOk P w K mg base (L2.CX P w) (3 + n) f21 fd21 ["well", "kinds", "size", "alone"] (spOf K 4 (spLs n)) := fun n => by
    induction n with
    | zero => exact D_stmt.ok (k := 2) sc__law_statement (d__law_statement T C_draw (by omega) C_one (by omega) (D_stmt.cal_of S0) (by omega)) (k_statement 0 _ fun j z => by omega)
    | succ n ih => exact (D_stmt.ok (k := 3 + n) sc__law_statement (d__law_statement T C_draw (by omega) C_one (by omega) (D_stmt.cal_of ih) (by omega)) (k_statement (n + 1) _ fun j z => by cases z; rfl)).mono (by omega)
  have C_stmt : Cal P w K mg base 26 "_law_statement" 4 (spLs 23) [] := D_stmt.cal_of (St 23)
  obtain ⟨f22, fd22, D_parts⟩ := A.law_parts
  have P0 : FnOk P w K mg base (L2.CX P w) 0 f22 fd22 ["statement"] (spOf K 1 fun _ _ _ => False) := fn_none (ps := ["statement"]) fun _ _ _ _ h => h
  have Pt' : ∀ n : Nat, FnOk P w K mg base (L2.CX P w) (1 + n) f22 fd22 ["statement"] (spOf K 1 (spPt n)) := fun n => by
    induction n with
    | zero => exact D_parts.ok (k := 0) sc__law_parts (d__law_parts T (D_parts.cal_of P0) (by omega)) (k_parts 0 _ fun j z => by omega)
    | succ n ih => exact (D_parts.ok (k := 1 + n) sc__law_parts (d__law_parts T (D_parts.cal_of ih) (by omega)) (k_parts (n + 1) _ fun j z => by cases z; rfl)).mono (by omega)
  have C_parts : Cal P w K mg base 24 "_law_parts" 1 (spPt 23) [] := D_parts.cal_of (Pt' 23)
  obtain ⟨f23, fd23, D_deep⟩ := A.law_deep
  have Q0 : FnOk P w K mg base (L2.CX P w) 0 f23 fd23 ["value"] (spOf K 1 fun _ _ _ => False) := fn_none (ps := ["value"]) fun _ _ _ _ h => h
  have Dp : ∀ n : Nat, FnOk P w K mg base (L2.CX P w) (1 + n) f23 fd23 ["value"] (spOf K 1 (spDp n)) := fun n => by
    induction n with
    | zero => exact D_deep.ok (k := 0) sc__law_deep (d__law_deep T (D_deep.cal_of Q0) (by omega)) (k_deep 0 _ fun j z => by omega)
    | succ n ih => exact (D_deep.ok (k := 1 + n) sc__law_deep (d__law_deep T (D_deep.cal_of ih) (by omega)) (k_deep (n + 1) _ fun j z => by cases z; rfl)).mono (by omega)
  have C_deep : Cal P w K mg base 41 "_law_deep" 1 (spDp 40) [] := D_deep.cal_of (Dp 40)
  obtain ⟨f24, fd24, D_ph⟩ := A.law_part_heard
  have C_ph : Cal P w K mg base 1 "_law_part_heard" 1 (spPh U) [] := D_ph.cal_of (D_ph.ok (k := 0) sc__law_part_heard (d__law_part_heard T X) (k_part_heard F))
  have HC : ∀ R : D → D → Prop, HCal P w K mg base 2 "_law_heard" 1 (spOf1 U R) hvL (hxL U) := fun R => by
    obtain ⟨g, cdv, R'⟩ := A.law_heard
    obtain ⟨oc, od, an, osl, kV, doc, pm, ct, lk⟩ := R'.lk
    exact ⟨⟨g, "ask", defArgs st__law_heard, defBody st__law_heard, defScope st__law_heard, .none, kV, doc, pm, cdv, ct, oc, an, od, osl, ["ask", "caught", "told", "error"], fun f τ => t__law_heard U f τ (spPh U), R'.mgf, R'.kp, lk, R'.code,
      Binds.all (fun us hl => match us, hl with | [_], _ => rfl), sc__law_heard, rfl, .inl rfl, by decide, by decide, fun f ds A outer s H c2 r1 r2 r3 r4 => d__law_heard T X C_ph (by omega) cdv A outer s H c2 r1 r2 r3 r4, fun f ds Qd h => k_heard F f ds Qd h⟩⟩
  obtain ⟨f25, fd25, D_nm⟩ := A.law_is_name
  have C_nm : Cal P w K mg base 1 "_law_is_name" 1 spNm [] := D_nm.cal_of (D_nm.ok sc__law_is_name (d__law_is_name T) k_law_name)
  obtain ⟨f26, fd26, D_is⟩ := A.law_is_statement
  have I0 : FnOk P w K mg base (L2.CX P w) 1 f26 fd26 ["value"] (spOf K 1 fun _ _ _ => False) := fn_none (ps := ["value"]) fun _ _ _ _ h => h
  have Is : ∀ n : Nat, FnOk P w K mg base (L2.CX P w) (2 + n) f26 fd26 ["value"] (spOf K 1 (spIs n)) := fun n => by
    induction n with
    | zero => exact D_is.ok (k := 1) sc__law_is_statement (d__law_is_statement T C_nm (by omega) (D_is.cal_of I0) (by omega)) (k_law_is 0 _ fun j z => by omega)
    | succ n ih => exact (D_is.ok (k := 2 + n) sc__law_is_statement (d__law_is_statement T C_nm (by omega) (D_is.cal_of ih) (by omega)) (k_law_is (n + 1) _ fun j z => by cases z; rfl)).mono (by omega)
  have C_is : Cal P w K mg base 42 "_law_is_statement" 1 (spIs 40) [] := D_is.cal_of (Is 40)
  obtain ⟨f27, fd27, D_fl⟩ := A.law_flat
  have L0 : FnOk P w K mg base (L2.CX P w) 0 f27 fd27 ["value"] (spOf K 1 fun _ _ _ => False) := fn_none (ps := ["value"]) fun _ _ _ _ h => h
  have Fl : ∀ n : Nat, FnOk P w K mg base (L2.CX P w) (1 + n) f27 fd27 ["value"] (spOf K 1 (spFl n)) := fun n => by
    induction n with
    | zero => exact D_fl.ok (k := 0) sc__law_flat (d__law_flat T (D_fl.cal_of L0) (by omega)) (k_flat 0 _ fun j z => by omega)
    | succ n ih => exact (D_fl.ok (k := 1 + n) sc__law_flat (d__law_flat T (D_fl.cal_of ih) (by omega)) (k_flat (n + 1) _ fun j z => by cases z; rfl)).mono (by omega)
  have C_fl : Cal P w K mg base 31 "_law_flat" 1 (spFl 30) [] := D_fl.cal_of (Fl 30)
  obtain ⟨f28, fd28, D_bn⟩ := A.law_bent
  have B0 : FnOk P w K mg base (L2.CX P w) 2 f28 fd28 ["well", "statement"] (spOf K 2 fun _ _ _ => False) := fn_none (ps := ["well", "statement"]) fun _ _ _ _ h => h
  have Bn : ∀ n : Nat, FnOk P w K mg base (L2.CX P w) (3 + n) f28 fd28 ["well", "statement"] (spOf K 2 (spBn n)) := fun n => by
    induction n with
    | zero => exact D_bn.ok (k := 2) sc__law_bent (d__law_bent T C_draw (by omega) C_one (by omega) (D_bn.cal_of B0) (by omega)) (k_bent 0 _ fun j z => by omega)
    | succ n ih => exact (D_bn.ok (k := 3 + n) sc__law_bent (d__law_bent T C_draw (by omega) C_one (by omega) (D_bn.cal_of ih) (by omega)) (k_bent (n + 1) _ fun j z => by cases z; rfl)).mono (by omega)
  have C_bn : Cal P w K mg base 26 "_law_bent" 2 (spBn 23) [] := D_bn.cal_of (Bn 23)
  obtain ⟨f29, fd29, D_lg⟩ := A.law_long
  have C_lg : Cal P w K mg base 1 "_law_long" 1 spLg [] := D_lg.cal_of (D_lg.ok sc__law_long (d__law_long T) k_long)
  obtain ⟨oc, od, an, osl, kV, doc, pm, ct, lk⟩ := A.law.lk
  exact law_run (N := ["script", "well", "turn", "kinds", "plain", "parts", "listed", "due", "straight", "is_right", "heard", "great", "other", "part", "one", "many"]) (x := "script") (k := 60) (q := (envOfC "law" (defScope st_law) 0 0 .none).qual ++ "<lambda>") lk A.law.code sc_law (k_law U)
    (fun A outer s H E c hA hT hr tk ho => d_law T C_well (by omega) C_kinds (by omega) C_draw (by omega) C_stmt (by omega) C_one (by omega) C_parts (by omega) C_deep (by omega) C_is_st (by omega) K_is_st (by omega) C_parts_of (by omega) K_parts_of (by omega) C_size_of (by omega) K_size_of (by omega) C_kinds_of (by omega) K_kinds_of (by omega) C_is_straight (by omega) K_is_straight (by omega)
      C_bn (by omega) C_is (by omega) C_fl (by omega) C_lg (by omega) (kH := 2) (by omega) TB (HC rPlain) (HC rKinds) (HC rSize) (HC rParts) A outer s H E c hr tk ho (by omega) hA hT) rfl ⟨rfl, by decide, by decide⟩ e0 (.of_eq rfl) hl hS hT
end
open X1
abbrev stI : Stmt := (X1.clsBody (top 10)).getD 0 (.Pass ⟨0, 0, 0, 0⟩)
theorem inI : X1.InS ["self", "part"] (defScope stI) := ⟨rfl, rfl, rfl, by decide +kernel, by decide +kernel, by decide +kernel, by decide +kernel, rfl, rfl⟩
theorem all_mk {l : PySem.W.OpenLaw} {w : World} {K : PySem.W.Frag} {h : Heap} {mg : Str → Option Value} {fa : Addr} (X : K.In h) (G : h.Ns mainGlobals mg) (hfa : mg "law" = some (.ref fa)) (O : LamX.OwnTab K fa h)
    {v_BadCode : Addr}
    {v_BadCommand : Addr}
    {v_BadHouse : Addr}
    {v_BadLibrary : Addr}
    {v_BadName : Addr}
    {v_BadNumber : Addr}
    {v_BadPaper : Addr}
    {v_BadSheet : Addr}
    {v_BadStatement : Addr}
    {v_BadTerm : Addr}
    {v_BadText : Addr}
    {v_BadValue : Addr}
    {v_Misfit : Addr}
    {v_Nothing : Addr}
    {v_PartError : Addr}
    {v_RunError : Addr}
    {v_TooMany : Addr}
    {f0 : Addr} {oc0 : Value} {od0 an0 : Option Addr} {sl0 : Array (Option Value)} {kV0 dc0 pm0 ct0 : Value}
    {cd0 : Value}
    {f1 : Addr} {oc1 : Value} {od1 an1 : Option Addr} {sl1 : Array (Option Value)} {kV1 dc1 pm1 ct1 : Value}
    {cd1 : Value}
    {f2 : Addr} {oc2 : Value} {od2 an2 : Option Addr} {sl2 : Array (Option Value)} {kV2 dc2 pm2 ct2 : Value}
    {cd2 : Value}
    {f3 : Addr} {oc3 : Value} {od3 an3 : Option Addr} {sl3 : Array (Option Value)} {kV3 dc3 pm3 ct3 : Value}
    {cd3 : Value}
    {f4 : Addr} {oc4 : Value} {od4 an4 : Option Addr} {sl4 : Array (Option Value)} {kV4 dc4 pm4 ct4 : Value}
    {cd4 : Value}
    {f5 : Addr} {oc5 : Value} {od5 an5 : Option Addr} {sl5 : Array (Option Value)} {kV5 dc5 pm5 ct5 : Value}
    {cd5 : Value}
    {tT5 : Addr} {oT5 : Value} {dT5 : Option Addr} {nT5 : Nat} {sT5 : Array (Option Value)} {kT5 : Tok}
    {f6 : Addr} {oc6 : Value} {od6 an6 : Option Addr} {sl6 : Array (Option Value)} {kV6 dc6 pm6 ct6 : Value}
    {cd6 : Value}
    {f7 : Addr} {oc7 : Value} {od7 an7 : Option Addr} {sl7 : Array (Option Value)} {kV7 dc7 pm7 ct7 : Value}
    {cd7 : Value}
    {f8 : Addr} {oc8 : Value} {od8 an8 : Option Addr} {sl8 : Array (Option Value)} {kV8 dc8 pm8 ct8 : Value}
    {cd8 : Value}
    {f9 : Addr} {oc9 : Value} {od9 an9 : Option Addr} {sl9 : Array (Option Value)} {kV9 dc9 pm9 ct9 : Value}
    {cd9 : Value}
    {f10 : Addr} {oc10 : Value} {od10 an10 : Option Addr} {sl10 : Array (Option Value)} {kV10 dc10 pm10 ct10 : Value}
    {cd10 : Value}
    {f11 : Addr} {oc11 : Value} {od11 an11 : Option Addr} {sl11 : Array (Option Value)} {kV11 dc11 pm11 ct11 : Value}
    {cd11 : Value}
    {f12 : Addr} {oc12 : Value} {od12 an12 : Option Addr} {sl12 : Array (Option Value)} {kV12 dc12 pm12 ct12 : Value}
    {cd12 : Value}
    {f13 : Addr} {oc13 : Value} {od13 an13 : Option Addr} {sl13 : Array (Option Value)} {kV13 dc13 pm13 ct13 : Value}
    {cd13 : Value}
    {f14 : Addr} {oc14 : Value} {od14 an14 : Option Addr} {sl14 : Array (Option Value)} {kV14 dc14 pm14 ct14 : Value}
    {cd14 : Value}
    {f15 : Addr} {oc15 : Value} {od15 an15 : Option Addr} {sl15 : Array (Option Value)} {kV15 dc15 pm15 ct15 : Value}
    {cd15 : Value}
    {f16 : Addr} {oc16 : Value} {od16 an16 : Option Addr} {sl16 : Array (Option Value)} {kV16 dc16 pm16 ct16 : Value}
    {cd16 : Value}
    {f17 : Addr} {oc17 : Value} {od17 an17 : Option Addr} {sl17 : Array (Option Value)} {kV17 dc17 pm17 ct17 : Value}
    {cd17 : Value}
    {f18 : Addr} {oc18 : Value} {od18 an18 : Option Addr} {sl18 : Array (Option Value)} {kV18 dc18 pm18 ct18 : Value}
    {cd18 : Value}
    {f19 : Addr} {oc19 : Value} {od19 an19 : Option Addr} {sl19 : Array (Option Value)} {kV19 dc19 pm19 ct19 : Value}
    {cd19 : Value}
    {f20 : Addr} {oc20 : Value} {od20 an20 : Option Addr} {sl20 : Array (Option Value)} {kV20 dc20 pm20 ct20 : Value}
    {cd20 : Value}
    {f21 : Addr} {oc21 : Value} {od21 an21 : Option Addr} {sl21 : Array (Option Value)} {kV21 dc21 pm21 ct21 : Value}
    {cd21 : Value}
    {f22 : Addr} {oc22 : Value} {od22 an22 : Option Addr} {sl22 : Array (Option Value)} {kV22 dc22 pm22 ct22 : Value}
    {cd22 : Value}
    {f23 : Addr} {oc23 : Value} {od23 an23 : Option Addr} {sl23 : Array (Option Value)} {kV23 dc23 pm23 ct23 : Value}
    {cd23 : Value}
    {f24 : Addr} {oc24 : Value} {od24 an24 : Option Addr} {sl24 : Array (Option Value)} {kV24 dc24 pm24 ct24 : Value}
    {cd24 : Value}
    {f25 : Addr} {oc25 : Value} {od25 an25 : Option Addr} {sl25 : Array (Option Value)} {kV25 dc25 pm25 ct25 : Value}
    {cd25 : Value}
    {f26 : Addr} {oc26 : Value} {od26 an26 : Option Addr} {sl26 : Array (Option Value)} {kV26 dc26 pm26 ct26 : Value}
    {cd26 : Value}
    {f27 : Addr} {oc27 : Value} {od27 an27 : Option Addr} {sl27 : Array (Option Value)} {kV27 dc27 pm27 ct27 : Value}
    {cd27 : Value}
    {f28 : Addr} {oc28 : Value} {od28 an28 : Option Addr} {sl28 : Array (Option Value)} {kV28 dc28 pm28 ct28 : Value}
    {cdL PtL : Addr}
    {p_JOINS : Addr} {it_JOINS : Array Value} {n_JOINS : Nat} {sl_JOINS : Array (Option Value)} {dd_JOINS : Option Addr}
    {t_LETTERS : Tok}
    {t_MOST_PARTS : Tok}
    {t_MOST_SIGNS : Tok}
    {t_NO : Tok}
    {t_OR : Tok}
    {p_WORDS : Addr} {it_WORDS : Array Value} {n_WORDS : Nat} {sl_WORDS : Array (Option Value)} {dd_WORDS : Option Addr}
    {t_YES : Tok}
    {fI cdI ccI : Addr} {ocI clI cclI : Value} {odI anI cldI cddI : Option Addr} {slI cslI ccsI : Array (Option Value)} {kVI dcI pmI ctI : Value} {vsI : Array Value} {flI : Str} {tfI : Tok} {cdD : PySem.ClassData}
    {nm0 q0 : Str} {N0 : Addr} {bs0 bm0 : List Value} {sn0 : List Str} {sub0 : List Value} {ab0 : Bool} {col0 : Option Bool} {dd0 : Option Addr} {m00 m10 m20 m30 m50 : Option Value}
    {eL : Value} {ddL : Option Addr} {vsL : Array Value} {slL : Array (Option Value)}
    (a_BadCode : PySem.W.nsIn K mainGlobals "BadCode" = some (some (.ref v_BadCode)))
    (a_BadCommand : PySem.W.nsIn K mainGlobals "BadCommand" = some (some (.ref v_BadCommand)))
    (a_BadHouse : PySem.W.nsIn K mainGlobals "BadHouse" = some (some (.ref v_BadHouse)))
    (a_BadLibrary : PySem.W.nsIn K mainGlobals "BadLibrary" = some (some (.ref v_BadLibrary)))
    (a_BadName : PySem.W.nsIn K mainGlobals "BadName" = some (some (.ref v_BadName)))
    (a_BadNumber : PySem.W.nsIn K mainGlobals "BadNumber" = some (some (.ref v_BadNumber)))
    (a_BadPaper : PySem.W.nsIn K mainGlobals "BadPaper" = some (some (.ref v_BadPaper)))
    (a_BadSheet : PySem.W.nsIn K mainGlobals "BadSheet" = some (some (.ref v_BadSheet)))
    (a_BadStatement : PySem.W.nsIn K mainGlobals "BadStatement" = some (some (.ref v_BadStatement)))
    (a_BadTerm : PySem.W.nsIn K mainGlobals "BadTerm" = some (some (.ref v_BadTerm)))
    (a_BadText : PySem.W.nsIn K mainGlobals "BadText" = some (some (.ref v_BadText)))
    (a_BadValue : PySem.W.nsIn K mainGlobals "BadValue" = some (some (.ref v_BadValue)))
    (a_Misfit : PySem.W.nsIn K mainGlobals "Misfit" = some (some (.ref v_Misfit)))
    (a_Nothing : PySem.W.nsIn K mainGlobals "Nothing" = some (some (.ref v_Nothing)))
    (a_PartError : PySem.W.nsIn K mainGlobals "PartError" = some (some (.ref v_PartError)))
    (a_RunError : PySem.W.nsIn K mainGlobals "RunError" = some (some (.ref v_RunError)))
    (a_TooMany : PySem.W.nsIn K mainGlobals "TooMany" = some (some (.ref v_TooMany)))
    (a0 : PySem.W.nsIn K mainGlobals "is_row" = some (some (.ref f0)))
    (l0 : K.lookup f0 = some ⟨oc0, od0, .func (PySem.W.fnOf "is_row" "is_row" (defArgs st_is_row) (defBody st_is_row) (defScope st_is_row) .none kV0 dc0 pm0 an0 cd0 ct0), sl0⟩)
    (e0 : PySem.W.codeIn K cd0 "is_row" = true)
    (p0 : PySem.W.keepIn K (.ref f0) = true)
    (a1 : PySem.W.nsIn K mainGlobals "is_name" = some (some (.ref f1)))
    (l1 : K.lookup f1 = some ⟨oc1, od1, .func (PySem.W.fnOf "is_name" "is_name" (defArgs st_is_name) (defBody st_is_name) (defScope st_is_name) .none kV1 dc1 pm1 an1 cd1 ct1), sl1⟩)
    (e1 : PySem.W.codeIn K cd1 "is_name" = true)
    (p1 : PySem.W.keepIn K (.ref f1) = true)
    (a2 : PySem.W.nsIn K mainGlobals "fixed" = some (some (.ref f2)))
    (l2 : K.lookup f2 = some ⟨oc2, od2, .func (PySem.W.fnOf "fixed" "fixed" (defArgs st_fixed) (defBody st_fixed) (defScope st_fixed) .none kV2 dc2 pm2 an2 cd2 ct2), sl2⟩)
    (e2 : PySem.W.codeIn K cd2 "fixed" = true)
    (p2 : PySem.W.keepIn K (.ref f2) = true)
    (a3 : PySem.W.nsIn K mainGlobals "statement_in" = some (some (.ref f3)))
    (l3 : K.lookup f3 = some ⟨oc3, od3, .func (PySem.W.fnOf "statement_in" "statement_in" (defArgs st_statement_in) (defBody st_statement_in) (defScope st_statement_in) .none kV3 dc3 pm3 an3 cd3 ct3), sl3⟩)
    (e3 : PySem.W.codeIn K cd3 "statement_in" = true)
    (p3 : PySem.W.keepIn K (.ref f3) = true)
    (a4 : PySem.W.nsIn K mainGlobals "is_statement" = some (some (.ref f4)))
    (l4 : K.lookup f4 = some ⟨oc4, od4, .func (PySem.W.fnOf "is_statement" "is_statement" (defArgs st_is_statement) (defBody st_is_statement) (defScope st_is_statement) .none kV4 dc4 pm4 an4 cd4 ct4), sl4⟩)
    (e4 : PySem.W.codeIn K cd4 "is_statement" = true)
    (p4 : PySem.W.keepIn K (.ref f4) = true)
    (a5 : PySem.W.nsIn K mainGlobals "need_statement" = some (some (.ref f5)))
    (l5 : K.lookup f5 = some ⟨oc5, od5, .func (PySem.W.fnOf "need_statement" "need_statement" (defArgs st_need_statement) (defBody st_need_statement) (defScope st_need_statement) (.ref tT5) kV5 dc5 pm5 an5 cd5 ct5), sl5⟩)
    (e5 : PySem.W.codeIn K cd5 "need_statement" = true)
    (p5 : PySem.W.keepIn K (.ref f5) = true)
    (q5 : K.lookup tT5 = some ⟨oT5, dT5, .seq #[.str "statement" kT5] nT5, sT5⟩)
    (a6 : PySem.W.nsIn K mainGlobals "parts_in" = some (some (.ref f6)))
    (l6 : K.lookup f6 = some ⟨oc6, od6, .func (PySem.W.fnOf "parts_in" "parts_in" (defArgs st_parts_in) (defBody st_parts_in) (defScope st_parts_in) .none kV6 dc6 pm6 an6 cd6 ct6), sl6⟩)
    (e6 : PySem.W.codeIn K cd6 "parts_in" = true)
    (p6 : PySem.W.keepIn K (.ref f6) = true)
    (a7 : PySem.W.nsIn K mainGlobals "kinds_in" = some (some (.ref f7)))
    (l7 : K.lookup f7 = some ⟨oc7, od7, .func (PySem.W.fnOf "kinds_in" "kinds_in" (defArgs st_kinds_in) (defBody st_kinds_in) (defScope st_kinds_in) .none kV7 dc7 pm7 an7 cd7 ct7), sl7⟩)
    (e7 : PySem.W.codeIn K cd7 "kinds_in" = true)
    (p7 : PySem.W.keepIn K (.ref f7) = true)
    (a8 : PySem.W.nsIn K mainGlobals "is_plain" = some (some (.ref f8)))
    (l8 : K.lookup f8 = some ⟨oc8, od8, .func (PySem.W.fnOf "is_plain" "is_plain" (defArgs st_is_plain) (defBody st_is_plain) (defScope st_is_plain) .none kV8 dc8 pm8 an8 cd8 ct8), sl8⟩)
    (e8 : PySem.W.codeIn K cd8 "is_plain" = true)
    (p8 : PySem.W.keepIn K (.ref f8) = true)
    (a9 : PySem.W.nsIn K mainGlobals "parts_of" = some (some (.ref f9)))
    (l9 : K.lookup f9 = some ⟨oc9, od9, .func (PySem.W.fnOf "parts_of" "parts_of" (defArgs st_parts_of) (defBody st_parts_of) (defScope st_parts_of) .none kV9 dc9 pm9 an9 cd9 ct9), sl9⟩)
    (e9 : PySem.W.codeIn K cd9 "parts_of" = true)
    (p9 : PySem.W.keepIn K (.ref f9) = true)
    (a10 : PySem.W.nsIn K mainGlobals "size_of" = some (some (.ref f10)))
    (l10 : K.lookup f10 = some ⟨oc10, od10, .func (PySem.W.fnOf "size_of" "size_of" (defArgs st_size_of) (defBody st_size_of) (defScope st_size_of) .none kV10 dc10 pm10 an10 cd10 ct10), sl10⟩)
    (e10 : PySem.W.codeIn K cd10 "size_of" = true)
    (p10 : PySem.W.keepIn K (.ref f10) = true)
    (a11 : PySem.W.nsIn K mainGlobals "kinds_of" = some (some (.ref f11)))
    (l11 : K.lookup f11 = some ⟨oc11, od11, .func (PySem.W.fnOf "kinds_of" "kinds_of" (defArgs st_kinds_of) (defBody st_kinds_of) (defScope st_kinds_of) .none kV11 dc11 pm11 an11 cd11 ct11), sl11⟩)
    (e11 : PySem.W.codeIn K cd11 "kinds_of" = true)
    (p11 : PySem.W.keepIn K (.ref f11) = true)
    (a12 : PySem.W.nsIn K mainGlobals "is_straight" = some (some (.ref f12)))
    (l12 : K.lookup f12 = some ⟨oc12, od12, .func (PySem.W.fnOf "is_straight" "is_straight" (defArgs st_is_straight) (defBody st_is_straight) (defScope st_is_straight) .none kV12 dc12 pm12 an12 cd12 ct12), sl12⟩)
    (e12 : PySem.W.codeIn K cd12 "is_straight" = true)
    (p12 : PySem.W.keepIn K (.ref f12) = true)
    (a13 : PySem.W.nsIn K mainGlobals "_law_well" = some (some (.ref f13)))
    (l13 : K.lookup f13 = some ⟨oc13, od13, .func (PySem.W.fnOf "_law_well" "_law_well" (defArgs st__law_well) (defBody st__law_well) (defScope st__law_well) .none kV13 dc13 pm13 an13 cd13 ct13), sl13⟩)
    (e13 : PySem.W.codeIn K cd13 "_law_well" = true)
    (p13 : PySem.W.keepIn K (.ref f13) = true)
    (a14 : PySem.W.nsIn K mainGlobals "_law_draw" = some (some (.ref f14)))
    (l14 : K.lookup f14 = some ⟨oc14, od14, .func (PySem.W.fnOf "_law_draw" "_law_draw" (defArgs st__law_draw) (defBody st__law_draw) (defScope st__law_draw) .none kV14 dc14 pm14 an14 cd14 ct14), sl14⟩)
    (e14 : PySem.W.codeIn K cd14 "_law_draw" = true)
    (p14 : PySem.W.keepIn K (.ref f14) = true)
    (a15 : PySem.W.nsIn K mainGlobals "_law_one" = some (some (.ref f15)))
    (l15 : K.lookup f15 = some ⟨oc15, od15, .func (PySem.W.fnOf "_law_one" "_law_one" (defArgs st__law_one) (defBody st__law_one) (defScope st__law_one) .none kV15 dc15 pm15 an15 cd15 ct15), sl15⟩)
    (e15 : PySem.W.codeIn K cd15 "_law_one" = true)
    (p15 : PySem.W.keepIn K (.ref f15) = true)
    (a16 : PySem.W.nsIn K mainGlobals "_law_order" = some (some (.ref f16)))
    (l16 : K.lookup f16 = some ⟨oc16, od16, .func (PySem.W.fnOf "_law_order" "_law_order" (defArgs st__law_order) (defBody st__law_order) (defScope st__law_order) .none kV16 dc16 pm16 an16 cd16 ct16), sl16⟩)
    (e16 : PySem.W.codeIn K cd16 "_law_order" = true)
    (p16 : PySem.W.keepIn K (.ref f16) = true)
    (a17 : PySem.W.nsIn K mainGlobals "_law_kinds" = some (some (.ref f17)))
    (l17 : K.lookup f17 = some ⟨oc17, od17, .func (PySem.W.fnOf "_law_kinds" "_law_kinds" (defArgs st__law_kinds) (defBody st__law_kinds) (defScope st__law_kinds) .none kV17 dc17 pm17 an17 cd17 ct17), sl17⟩)
    (e17 : PySem.W.codeIn K cd17 "_law_kinds" = true)
    (p17 : PySem.W.keepIn K (.ref f17) = true)
    (a18 : PySem.W.nsIn K mainGlobals "_law_statement" = some (some (.ref f18)))
    (l18 : K.lookup f18 = some ⟨oc18, od18, .func (PySem.W.fnOf "_law_statement" "_law_statement" (defArgs st__law_statement) (defBody st__law_statement) (defScope st__law_statement) .none kV18 dc18 pm18 an18 cd18 ct18), sl18⟩)
    (e18 : PySem.W.codeIn K cd18 "_law_statement" = true)
    (p18 : PySem.W.keepIn K (.ref f18) = true)
    (a19 : PySem.W.nsIn K mainGlobals "_law_parts" = some (some (.ref f19)))
    (l19 : K.lookup f19 = some ⟨oc19, od19, .func (PySem.W.fnOf "_law_parts" "_law_parts" (defArgs st__law_parts) (defBody st__law_parts) (defScope st__law_parts) .none kV19 dc19 pm19 an19 cd19 ct19), sl19⟩)
    (e19 : PySem.W.codeIn K cd19 "_law_parts" = true)
    (p19 : PySem.W.keepIn K (.ref f19) = true)
    (a20 : PySem.W.nsIn K mainGlobals "_law_deep" = some (some (.ref f20)))
    (l20 : K.lookup f20 = some ⟨oc20, od20, .func (PySem.W.fnOf "_law_deep" "_law_deep" (defArgs st__law_deep) (defBody st__law_deep) (defScope st__law_deep) .none kV20 dc20 pm20 an20 cd20 ct20), sl20⟩)
    (e20 : PySem.W.codeIn K cd20 "_law_deep" = true)
    (p20 : PySem.W.keepIn K (.ref f20) = true)
    (a21 : PySem.W.nsIn K mainGlobals "_law_heard" = some (some (.ref f21)))
    (l21 : K.lookup f21 = some ⟨oc21, od21, .func (PySem.W.fnOf "_law_heard" "_law_heard" (defArgs st__law_heard) (defBody st__law_heard) (defScope st__law_heard) .none kV21 dc21 pm21 an21 cd21 ct21), sl21⟩)
    (e21 : PySem.W.codeIn K cd21 "_law_heard" = true)
    (p21 : PySem.W.keepIn K (.ref f21) = true)
    (a22 : PySem.W.nsIn K mainGlobals "_law_part_heard" = some (some (.ref f22)))
    (l22 : K.lookup f22 = some ⟨oc22, od22, .func (PySem.W.fnOf "_law_part_heard" "_law_part_heard" (defArgs st__law_part_heard) (defBody st__law_part_heard) (defScope st__law_part_heard) .none kV22 dc22 pm22 an22 cd22 ct22), sl22⟩)
    (e22 : PySem.W.codeIn K cd22 "_law_part_heard" = true)
    (p22 : PySem.W.keepIn K (.ref f22) = true)
    (a23 : PySem.W.nsIn K mainGlobals "_law_is_name" = some (some (.ref f23)))
    (l23 : K.lookup f23 = some ⟨oc23, od23, .func (PySem.W.fnOf "_law_is_name" "_law_is_name" (defArgs st__law_is_name) (defBody st__law_is_name) (defScope st__law_is_name) .none kV23 dc23 pm23 an23 cd23 ct23), sl23⟩)
    (e23 : PySem.W.codeIn K cd23 "_law_is_name" = true)
    (p23 : PySem.W.keepIn K (.ref f23) = true)
    (a24 : PySem.W.nsIn K mainGlobals "_law_is_statement" = some (some (.ref f24)))
    (l24 : K.lookup f24 = some ⟨oc24, od24, .func (PySem.W.fnOf "_law_is_statement" "_law_is_statement" (defArgs st__law_is_statement) (defBody st__law_is_statement) (defScope st__law_is_statement) .none kV24 dc24 pm24 an24 cd24 ct24), sl24⟩)
    (e24 : PySem.W.codeIn K cd24 "_law_is_statement" = true)
    (p24 : PySem.W.keepIn K (.ref f24) = true)
    (a25 : PySem.W.nsIn K mainGlobals "_law_flat" = some (some (.ref f25)))
    (l25 : K.lookup f25 = some ⟨oc25, od25, .func (PySem.W.fnOf "_law_flat" "_law_flat" (defArgs st__law_flat) (defBody st__law_flat) (defScope st__law_flat) .none kV25 dc25 pm25 an25 cd25 ct25), sl25⟩)
    (e25 : PySem.W.codeIn K cd25 "_law_flat" = true)
    (p25 : PySem.W.keepIn K (.ref f25) = true)
    (a26 : PySem.W.nsIn K mainGlobals "_law_bent" = some (some (.ref f26)))
    (l26 : K.lookup f26 = some ⟨oc26, od26, .func (PySem.W.fnOf "_law_bent" "_law_bent" (defArgs st__law_bent) (defBody st__law_bent) (defScope st__law_bent) .none kV26 dc26 pm26 an26 cd26 ct26), sl26⟩)
    (e26 : PySem.W.codeIn K cd26 "_law_bent" = true)
    (p26 : PySem.W.keepIn K (.ref f26) = true)
    (a27 : PySem.W.nsIn K mainGlobals "_law_long" = some (some (.ref f27)))
    (l27 : K.lookup f27 = some ⟨oc27, od27, .func (PySem.W.fnOf "_law_long" "_law_long" (defArgs st__law_long) (defBody st__law_long) (defScope st__law_long) .none kV27 dc27 pm27 an27 cd27 ct27), sl27⟩)
    (e27 : PySem.W.codeIn K cd27 "_law_long" = true)
    (p27 : PySem.W.keepIn K (.ref f27) = true)
    (a28 : PySem.W.nsIn K mainGlobals "law" = some (some (.ref f28)))
    (l28 : K.lookup f28 = some ⟨oc28, od28, .func (PySem.W.fnOf "law" "law" (defArgs st_law) (defBody st_law) (defScope st_law) .none kV28 dc28 pm28 an28 (.ref cdL) ct28), sl28⟩)
    (e28 : PySem.W.codeIn K (.ref cdL) "law" = true)
    (p28 : PySem.W.keepIn K (.ref f28) = true)
    (z_abs : PySem.W.nsIn K mainGlobals "abs" = some none)
    (z_all : PySem.W.nsIn K mainGlobals "all" = some none)
    (z_any : PySem.W.nsIn K mainGlobals "any" = some none)
    (z_int : PySem.W.nsIn K mainGlobals "int" = some none)
    (z_isinstance : PySem.W.nsIn K mainGlobals "isinstance" = some none)
    (z_len : PySem.W.nsIn K mainGlobals "len" = some none)
    (z_list : PySem.W.nsIn K mainGlobals "list" = some none)
    (z_range : PySem.W.nsIn K mainGlobals "range" = some none)
    (z_repr : PySem.W.nsIn K mainGlobals "repr" = some none)
    (z_set : PySem.W.nsIn K mainGlobals "set" = some none)
    (z_sorted : PySem.W.nsIn K mainGlobals "sorted" = some none)
    (z_str : PySem.W.nsIn K mainGlobals "str" = some none)
    (z_tuple : PySem.W.nsIn K mainGlobals "tuple" = some none)
    (g_JOINS : PySem.W.nsIn K mainGlobals "JOINS" = some (some (.ref p_JOINS)))
    (l_JOINS : K.lookup p_JOINS = some ⟨.type "tuple", dd_JOINS, .seq it_JOINS n_JOINS, sl_JOINS⟩)
    (v_JOINS : L2.Vals (List.map L2.V.str ["and", "or", "gives"]) it_JOINS.toList)
    (g_LETTERS : PySem.W.nsIn K mainGlobals "LETTERS" = some (some (.str "abcdefghijklmnopqrstuvwxyz" t_LETTERS)))
    (g_MOST_PARTS : PySem.W.nsIn K mainGlobals "MOST_PARTS" = some (some (.int (24) t_MOST_PARTS)))
    (g_MOST_SIGNS : PySem.W.nsIn K mainGlobals "MOST_SIGNS" = some (some (.int (8) t_MOST_SIGNS)))
    (g_NO : PySem.W.nsIn K mainGlobals "NO" = some (some (.str "no" t_NO)))
    (g_OR : PySem.W.nsIn K mainGlobals "OR" = some (some (.str "or" t_OR)))
    (g_WORDS : PySem.W.nsIn K mainGlobals "WORDS" = some (some (.ref p_WORDS)))
    (l_WORDS : K.lookup p_WORDS = some ⟨.type "tuple", dd_WORDS, .seq it_WORDS n_WORDS, sl_WORDS⟩)
    (v_WORDS : L2.Vals (List.map L2.V.str ["and", "or", "gives", "yes", "no", "fun", "call", "pair", "first", "second", "left", "right", "case", "unit", "never", "hole"]) it_WORDS.toList)
    (g_YES : PySem.W.nsIn K mainGlobals "YES" = some (some (.str "yes" t_YES)))
    (u0 : PySem.W.findIn K (.ref v_BadStatement) "__init__" = some (some (.ref fI)))
    (u1 : PySem.W.typeIn K (.ref fI) = some (.type "function"))
    (u2 : K.lookup fI = some ⟨ocI, odI, .func (PySem.W.ksFn "__init__" "PartError.__init__" (defArgs stI) (defBody stI) (defScope stI) .none kVI dcI pmI anI (.ref cdI) ctI ccI), slI⟩)
    (u3 : PySem.W.codeIn K (.ref cdI) "PartError.__init__" = true)
    (u4 : K.lookup cdI = some ⟨cclI, cddI, .fields vsI, ccsI⟩)
    (u5 : vsI[2]? = some (.str flI tfI))
    (u6 : ((l.prog.main.file : Str) == flI) = true)
    (u7 : K.lookup ccI = some ⟨clI, cldI, .cell (some (.ref v_PartError)), cslI⟩)
    (u8 : PySem.W.clsIn K v_PartError = some cdD)
    (u9 : PySem.W.nsIn K mainGlobals "super" = some none)
    (u10 : (l.prog.main.scope.names.lookup ("super" : Str)).isSome = false)
    (u11 : PySem.W.nsIn K PySem.cStatics "thirdparty.any" = some none)
    (o1 : PySem.W.specialIn K (.builtin "object.__class__") "__get__" = some (some (.builtin "getset_descriptor.__get__")))
    (o2 : PySem.W.takesIn K (.builtin "object.__class__") = some true)
    (y1_BadCode : PySem.W.isClsIn K v_BadCode = true)
    (y2_BadCode : PySem.W.typeIn K (.ref v_BadCode) = some (.type "type"))
    (y1_BadCommand : PySem.W.isClsIn K v_BadCommand = true)
    (y2_BadCommand : PySem.W.typeIn K (.ref v_BadCommand) = some (.type "type"))
    (y1_BadHouse : PySem.W.isClsIn K v_BadHouse = true)
    (y2_BadHouse : PySem.W.typeIn K (.ref v_BadHouse) = some (.type "type"))
    (y1_BadLibrary : PySem.W.isClsIn K v_BadLibrary = true)
    (y2_BadLibrary : PySem.W.typeIn K (.ref v_BadLibrary) = some (.type "type"))
    (y1_BadName : PySem.W.isClsIn K v_BadName = true)
    (y2_BadName : PySem.W.typeIn K (.ref v_BadName) = some (.type "type"))
    (y1_BadNumber : PySem.W.isClsIn K v_BadNumber = true)
    (y2_BadNumber : PySem.W.typeIn K (.ref v_BadNumber) = some (.type "type"))
    (y1_BadPaper : PySem.W.isClsIn K v_BadPaper = true)
    (y2_BadPaper : PySem.W.typeIn K (.ref v_BadPaper) = some (.type "type"))
    (y1_BadSheet : PySem.W.isClsIn K v_BadSheet = true)
    (y2_BadSheet : PySem.W.typeIn K (.ref v_BadSheet) = some (.type "type"))
    (y1_BadStatement : PySem.W.isClsIn K v_BadStatement = true)
    (y2_BadStatement : PySem.W.typeIn K (.ref v_BadStatement) = some (.type "type"))
    (y1_BadTerm : PySem.W.isClsIn K v_BadTerm = true)
    (y2_BadTerm : PySem.W.typeIn K (.ref v_BadTerm) = some (.type "type"))
    (y1_BadText : PySem.W.isClsIn K v_BadText = true)
    (y2_BadText : PySem.W.typeIn K (.ref v_BadText) = some (.type "type"))
    (y1_BadValue : PySem.W.isClsIn K v_BadValue = true)
    (y2_BadValue : PySem.W.typeIn K (.ref v_BadValue) = some (.type "type"))
    (y1_Misfit : PySem.W.isClsIn K v_Misfit = true)
    (y2_Misfit : PySem.W.typeIn K (.ref v_Misfit) = some (.type "type"))
    (y1_Nothing : PySem.W.isClsIn K v_Nothing = true)
    (y2_Nothing : PySem.W.typeIn K (.ref v_Nothing) = some (.type "type"))
    (y1_PartError : PySem.W.isClsIn K v_PartError = true)
    (y2_PartError : PySem.W.typeIn K (.ref v_PartError) = some (.type "type"))
    (y1_RunError : PySem.W.isClsIn K v_RunError = true)
    (y2_RunError : PySem.W.typeIn K (.ref v_RunError) = some (.type "type"))
    (y1_TooMany : PySem.W.isClsIn K v_TooMany = true)
    (y2_TooMany : PySem.W.typeIn K (.ref v_TooMany) = some (.type "type"))
    (y3_RunError : PySem.W.subIn K (.ref v_RunError) (.type "BaseException") = some true)
    (x0_0 : K.lookup v_BadStatement = some (excClassObj nm0 q0 v_BadStatement N0 bs0 bm0 true sn0 sub0 ab0 col0 dd0 m00 m10 m20 m30 m50 "ValueError.__new__"))
    (x1_0 : PySem.HandSPX.refsVE bm0 = true)
    (x2_0 : PySem.W.findIn K (.ref v_BadStatement) "__setattr__" = some (some (.builtin "object.__setattr__")))
    (x3_0 : PySem.W.subIn K (.ref v_BadStatement) (.type "BaseException") = some true)
    (x4_0 : PySem.W.typeIn K (.ref v_BadStatement) = some (.type "type"))
    (x5_0 : PySem.W.keepIn K (.ref v_BadStatement) = true)
    (x6_0 : PySem.W.findIn K (.ref v_BadStatement) "__getattribute__" = some (some (.builtin "BaseException.__getattribute__")))
    (x7_0 : PySem.W.findIn K (.ref v_BadStatement) "__getattr__" = some none)
    (x8_0 : PySem.W.hasDictIn K v_BadStatement = true)
    (x9_0 : PySem.W.findIn K (.ref v_BadStatement) "__class__" = some (some (.builtin "object.__class__")))
    (xa_0 : PySem.W.mroIn K v_BadStatement (.type "object") = some true)
    (xb_0 : PySem.W.mroIn K v_BadStatement (.ref v_PartError) = some true)
    (xc_0 : PySem.W.ks_superIn K v_BadStatement v_PartError "__init__" = some (some (.builtin "ValueError.__init__")))
    (xd_0 : PySem.W.subIn K (.ref v_BadStatement) (.type "ValueError") = some true)
    (xe_0 : PySem.W.findIn K (.ref v_BadStatement) "part" = some none)
    (xf_0 : PySem.W.subIn K (.ref v_BadStatement) (.ref v_BadStatement) = some true)
    (s0_BadCode : PySem.W.subIn K (.ref v_BadStatement) (.ref v_BadCode) = some false)
    (s0_BadCommand : PySem.W.subIn K (.ref v_BadStatement) (.ref v_BadCommand) = some false)
    (s0_BadHouse : PySem.W.subIn K (.ref v_BadStatement) (.ref v_BadHouse) = some false)
    (s0_BadLibrary : PySem.W.subIn K (.ref v_BadStatement) (.ref v_BadLibrary) = some false)
    (s0_BadName : PySem.W.subIn K (.ref v_BadStatement) (.ref v_BadName) = some false)
    (s0_BadNumber : PySem.W.subIn K (.ref v_BadStatement) (.ref v_BadNumber) = some false)
    (s0_BadPaper : PySem.W.subIn K (.ref v_BadStatement) (.ref v_BadPaper) = some false)
    (s0_BadSheet : PySem.W.subIn K (.ref v_BadStatement) (.ref v_BadSheet) = some false)
    (s0_BadStatement : PySem.W.subIn K (.ref v_BadStatement) (.ref v_BadStatement) = some true)
    (s0_BadTerm : PySem.W.subIn K (.ref v_BadStatement) (.ref v_BadTerm) = some false)
    (s0_BadText : PySem.W.subIn K (.ref v_BadStatement) (.ref v_BadText) = some false)
    (s0_BadValue : PySem.W.subIn K (.ref v_BadStatement) (.ref v_BadValue) = some false)
    (s0_Misfit : PySem.W.subIn K (.ref v_BadStatement) (.ref v_Misfit) = some false)
    (s0_Nothing : PySem.W.subIn K (.ref v_BadStatement) (.ref v_Nothing) = some false)
    (s0_PartError : PySem.W.subIn K (.ref v_BadStatement) (.ref v_PartError) = some true)
    (s0_RunError : PySem.W.subIn K (.ref v_BadStatement) (.ref v_RunError) = some true)
    (s0_TooMany : PySem.W.subIn K (.ref v_BadStatement) (.ref v_TooMany) = some false)
    (w0 : K.lookup cdL = some ⟨eL, ddL, .fields vsL, slL⟩)
    (w1 : vsL[11]? = some (.ref PtL))
    (w2 : K.lookup PtL = none)
    (w3 : PySem.W.codeHdIn K cdL PtL = true)
    : X1.LawG l w K mg fa h := by
  have e := hfa.symm.trans (PySem.W.mg_of X G a28)
  cases e
  have T : Tx K w mg := ⟨PySem.W.mg_none_of X G z_abs,
    PySem.W.mg_none_of X G z_all,
    PySem.W.mg_none_of X G z_any,
    PySem.W.mg_none_of X G z_int,
    PySem.W.mg_none_of X G z_isinstance,
    PySem.W.mg_none_of X G z_len,
    PySem.W.mg_none_of X G z_list,
    PySem.W.mg_none_of X G z_range,
    PySem.W.mg_none_of X G z_repr,
    PySem.W.mg_none_of X G z_set,
    PySem.W.mg_none_of X G z_sorted,
    PySem.W.mg_none_of X G z_str,
    PySem.W.mg_none_of X G z_tuple,
    glo_strs (zs := ["and", "or", "gives"]) (PySem.W.mg_of X G g_JOINS) l_JOINS v_JOINS (by decide),
    glo_str (PySem.W.mg_of X G g_LETTERS),
    glo_int (PySem.W.mg_of X G g_MOST_PARTS),
    glo_int (PySem.W.mg_of X G g_MOST_SIGNS),
    glo_str (PySem.W.mg_of X G g_NO),
    glo_str (PySem.W.mg_of X G g_OR),
    glo_strs (zs := ["and", "or", "gives", "yes", "no", "fun", "call", "pair", "first", "second", "left", "right", "case", "unit", "never", "hole"]) (PySem.W.mg_of X G g_WORDS) l_WORDS v_WORDS (by decide),
    glo_str (PySem.W.mg_of X G g_YES)⟩
  have ex0 : L2.ExcC K v_BadStatement := ⟨x6_0, x7_0, x3_0, x8_0, x9_0, o1, o2, xa_0⟩
  have sc0 : X1.SupC K v_PartError v_BadStatement := ⟨⟨⟨_, _, _, _, _, _, _, _, _, _, _, _, _, _, _, x0_0, x1_0⟩, x2_0, x3_0, x4_0, x5_0⟩, xb_0, xc_0, xd_0⟩
  have hA : All K mg (⟨v_BadCode, v_BadCommand, v_BadHouse, v_BadLibrary, v_BadName, v_BadNumber, v_BadPaper, v_BadSheet, v_BadStatement, v_BadTerm, v_BadText, v_BadValue, v_Misfit, v_Nothing, v_PartError, v_RunError, v_TooMany, ivK K, oAK K, iEK K⟩ : XAd) cdL _ := ⟨⟨_, _, dd_mk (st := st_is_row) (ps := ["value"]) X G a0 l0 e0 p0 fun us hl => match us, hl with | [_], _ => rfl⟩,
    ⟨_, _, dd_mk (st := st_is_name) (ps := ["value"]) X G a1 l1 e1 p1 fun us hl => match us, hl with | [_], _ => rfl⟩,
    ⟨_, _, dd_mk (st := st_fixed) (ps := ["value"]) X G a2 l2 e2 p2 fun us hl => match us, hl with | [_], _ => rfl⟩,
    ⟨_, _, dd_mk (st := st_statement_in) (ps := ["value"]) X G a3 l3 e3 p3 fun us hl => match us, hl with | [_], _ => rfl⟩,
    ⟨_, _, dd_mk (st := st_is_statement) (ps := ["value"]) X G a4 l4 e4 p4 fun us hl => match us, hl with | [_], _ => rfl, ⟨fun s us ws _ h1 h2 => match us, ws, h1, h2 with | [], [_], _, _ => .of_eq rfl, fun h1 h2 => h1.append h2⟩⟩,
    ⟨_, _, ⟨⟨⟨_, _, _, _, _, _, _, _, _, _, rfl, l5, e5, .inr ⟨List.cons_ne_nil _ _, tT5, _, [.str "statement" kT5], _, rfl, q5, rfl, .cons ⟨_, rfl⟩ .nil⟩, .inl rfl⟩, p5⟩, PySem.W.mg_of X G a5, fun _ => .cons (.str _) .nil⟩⟩,
    ⟨_, _, dd_mk (st := st_parts_in) (ps := ["statement"]) X G a6 l6 e6 p6 fun us hl => match us, hl with | [_], _ => rfl⟩,
    ⟨_, _, dd_mk (st := st_kinds_in) (ps := ["statements"]) X G a7 l7 e7 p7 fun us hl => match us, hl with | [_], _ => rfl⟩,
    ⟨_, _, dd_mk (st := st_is_plain) (ps := ["statement"]) X G a8 l8 e8 p8 fun us hl => match us, hl with | [_], _ => rfl⟩,
    ⟨_, _, dd_mk (st := st_parts_of) (ps := ["statement"]) X G a9 l9 e9 p9 fun us hl => match us, hl with | [_], _ => rfl, ⟨fun s us ws _ h1 h2 => match us, ws, h1, h2 with | [], [_], _, _ => .of_eq rfl, fun h1 h2 => h1.append h2⟩⟩,
    ⟨_, _, dd_mk (st := st_size_of) (ps := ["statement"]) X G a10 l10 e10 p10 fun us hl => match us, hl with | [_], _ => rfl, ⟨fun s us ws _ h1 h2 => match us, ws, h1, h2 with | [], [_], _, _ => .of_eq rfl, fun h1 h2 => h1.append h2⟩⟩,
    ⟨_, _, dd_mk (st := st_kinds_of) (ps := ["statement"]) X G a11 l11 e11 p11 fun us hl => match us, hl with | [_], _ => rfl, ⟨fun s us ws _ h1 h2 => match us, ws, h1, h2 with | [], [_], _, _ => .of_eq rfl, fun h1 h2 => h1.append h2⟩⟩,
    ⟨_, _, dd_mk (st := st_is_straight) (ps := ["statement"]) X G a12 l12 e12 p12 fun us hl => match us, hl with | [_], _ => rfl, ⟨fun s us ws _ h1 h2 => match us, ws, h1, h2 with | [], [_], _, _ => .of_eq rfl, fun h1 h2 => h1.append h2⟩⟩,
    ⟨_, _, dd_mk (st := st__law_well) (ps := ["script"]) X G a13 l13 e13 p13 fun us hl => match us, hl with | [_], _ => rfl⟩,
    ⟨_, _, dd_mk (st := st__law_draw) (ps := ["well", "many"]) X G a14 l14 e14 p14 fun us hl => match us, hl with | [_, _], _ => rfl⟩,
    ⟨_, _, dd_mk (st := st__law_one) (ps := ["well", "some"]) X G a15 l15 e15 p15 fun us hl => match us, hl with | [_, _], _ => rfl⟩,
    ⟨_, _, dd_mk (st := st__law_order) (ps := ["well", "some"]) X G a16 l16 e16 p16 fun us hl => match us, hl with | [_, _], _ => rfl⟩,
    ⟨_, _, dd_mk (st := st__law_kinds) (ps := ["well", "many"]) X G a17 l17 e17 p17 fun us hl => match us, hl with | [_, _], _ => rfl⟩,
    ⟨_, _, dd_mk (st := st__law_statement) (ps := ["well", "kinds", "size", "alone"]) X G a18 l18 e18 p18 fun us hl => match us, hl with | [_, _, _, _], _ => rfl⟩,
    ⟨_, _, dd_mk (st := st__law_parts) (ps := ["statement"]) X G a19 l19 e19 p19 fun us hl => match us, hl with | [_], _ => rfl⟩,
    ⟨_, _, dd_mk (st := st__law_deep) (ps := ["value"]) X G a20 l20 e20 p20 fun us hl => match us, hl with | [_], _ => rfl⟩,
    ⟨_, _, ⟨PySem.W.mg_of X G a21, p21, ⟨_, _, _, _, _, _, _, _, l21⟩, e21⟩⟩,
    ⟨_, _, dd_mk (st := st__law_part_heard) (ps := ["caught"]) X G a22 l22 e22 p22 fun us hl => match us, hl with | [_], _ => rfl⟩,
    ⟨_, _, dd_mk (st := st__law_is_name) (ps := ["value"]) X G a23 l23 e23 p23 fun us hl => match us, hl with | [_], _ => rfl⟩,
    ⟨_, _, dd_mk (st := st__law_is_statement) (ps := ["value"]) X G a24 l24 e24 p24 fun us hl => match us, hl with | [_], _ => rfl⟩,
    ⟨_, _, dd_mk (st := st__law_flat) (ps := ["value"]) X G a25 l25 e25 p25 fun us hl => match us, hl with | [_], _ => rfl⟩,
    ⟨_, _, dd_mk (st := st__law_bent) (ps := ["well", "statement"]) X G a26 l26 e26 p26 fun us hl => match us, hl with | [_, _], _ => rfl⟩,
    ⟨_, _, dd_mk (st := st__law_long) (ps := ["many"]) X G a27 l27 e27 p27 fun us hl => match us, hl with | [_], _ => rfl⟩,
    ⟨PySem.W.mg_of X G a28, p28, ⟨_, _, _, _, _, _, _, _, l28⟩, e28⟩⟩
  have SF : X1.SupF l.prog K mg "PartError.__init__" (defArgs stI) (defBody stI) (defScope stI) ["self", "part"] fI (PySem.W.ksFn "__init__" "PartError.__init__" (defArgs stI) (defBody stI) (defScope stI) .none kVI dcI pmI anI (.ref cdI) ctI ccI) cdI ccI v_PartError := ⟨⟨_, _, _, _, _, _, _, _, rfl, u2⟩, u3, ⟨_, _, _, _, _, _, u4, u5, u6⟩, ⟨_, _, _, u7⟩, ⟨_, u8⟩, PySem.W.mg_none_of X G u9, u10, u11, ⟨_, rfl, rfl⟩⟩
  have FN : ∀ base : Heap, FnOk l.prog w K mg base (L2.CX l.prog w) 1 fI (PySem.W.ksFn "__init__" "PartError.__init__" (defArgs stI) (defBody stI) (defScope stI) .none kVI dcI pmI anI (.ref cdI) ctI ccI) ["self", "part"] (sp1 K v_PartError "part") := fun base => ok_init1 (k := 0) SF inI (by decide) (by decide) (by decide) (by decide) (fun env => rfl)
  have BI : Binds K (PySem.W.ksFn "__init__" "PartError.__init__" (defArgs stI) (defBody stI) (defScope stI) .none kVI dcI pmI anI (.ref cdI) ctI ccI) ["self", "part"] [] := Binds.all (fun us hl => match us, hl with | [_, _], _ => rfl)
  have XF : ∀ base : Heap, XFa l.prog w K mg base (⟨v_BadCode, v_BadCommand, v_BadHouse, v_BadLibrary, v_BadName, v_BadNumber, v_BadPaper, v_BadSheet, v_BadStatement, v_BadTerm, v_BadText, v_BadValue, v_Misfit, v_Nothing, v_PartError, v_RunError, v_TooMany, ivK K, oAK K, iEK K⟩ : XAd) := fun base => ⟨PySem.W.mg_of X G a_BadCode,
    PySem.W.mg_of X G a_BadCommand,
    PySem.W.mg_of X G a_BadHouse,
    PySem.W.mg_of X G a_BadLibrary,
    PySem.W.mg_of X G a_BadName,
    PySem.W.mg_of X G a_BadNumber,
    PySem.W.mg_of X G a_BadPaper,
    PySem.W.mg_of X G a_BadSheet,
    PySem.W.mg_of X G a_BadStatement,
    PySem.W.mg_of X G a_BadTerm,
    PySem.W.mg_of X G a_BadText,
    PySem.W.mg_of X G a_BadValue,
    PySem.W.mg_of X G a_Misfit,
    PySem.W.mg_of X G a_Nothing,
    PySem.W.mg_of X G a_PartError,
    PySem.W.mg_of X G a_RunError,
    PySem.W.mg_of X G a_TooMany,
    fun x c b h => ivK_ok h,
    fun n c h => h,
    fun x c h => h,
    ⟨PySem.W.mg_of X G a_BadStatement, sc0, ⟨fI, _, ["self", "part"], rfl, u0, u1, FN base, BI⟩⟩,
    xe_0⟩
  have hF : HF (⟨v_BadCode, v_BadCommand, v_BadHouse, v_BadLibrary, v_BadName, v_BadNumber, v_BadPaper, v_BadSheet, v_BadStatement, v_BadTerm, v_BadText, v_BadValue, v_Misfit, v_Nothing, v_PartError, v_RunError, v_TooMany, ivK K, oAK K, iEK K⟩ : XAd) := ⟨exm_of y3_RunError y1_RunError y2_RunError s0_RunError,
    ⟨ex0, xe_0⟩,
    iv_of ex0 (kit_of xf_0 y1_BadCode y2_BadCode s0_BadCode),
    iv_of ex0 (kit_of xf_0 y1_BadCommand y2_BadCommand s0_BadCommand),
    iv_of ex0 (kit_of xf_0 y1_BadHouse y2_BadHouse s0_BadHouse),
    iv_of ex0 (kit_of xf_0 y1_BadLibrary y2_BadLibrary s0_BadLibrary),
    iv_of ex0 (kit_of xf_0 y1_BadName y2_BadName s0_BadName),
    iv_of ex0 (kit_of xf_0 y1_BadNumber y2_BadNumber s0_BadNumber),
    iv_of ex0 (kit_of xf_0 y1_BadPaper y2_BadPaper s0_BadPaper),
    iv_of ex0 (kit_of xf_0 y1_BadSheet y2_BadSheet s0_BadSheet),
    iv_of ex0 (kit_of xf_0 y1_BadStatement y2_BadStatement s0_BadStatement),
    iv_of ex0 (kit_of xf_0 y1_BadTerm y2_BadTerm s0_BadTerm),
    iv_of ex0 (kit_of xf_0 y1_BadText y2_BadText s0_BadText),
    iv_of ex0 (kit_of xf_0 y1_BadValue y2_BadValue s0_BadValue),
    iv_of ex0 (kit_of xf_0 y1_Misfit y2_Misfit s0_Misfit),
    iv_of ex0 (kit_of xf_0 y1_Nothing y2_Nothing s0_Nothing),
    iv_of ex0 (kit_of xf_0 y1_PartError y2_PartError s0_PartError),
    iv_of ex0 (kit_of xf_0 y1_TooMany y2_TooMany s0_TooMany)⟩
  refine ⟨cdL, PtL, O cdL PtL _ _ _ _ vsL _ l28 rfl rfl w0 w1, w2, PySem.W.codeHd_of_K X w3, fun base H s a ns h1 h2 TB hP hl hS e0 => all_ok T hA (XF base) hF TB hl hP hS e0⟩
end Law
open PySem PySem.W PyProof.Rows in
set_option maxRecDepth 100000 in
set_option maxHeartbeats 0 in
theorem PySem.Challenge.cw_provenruns_k01_statements_and_their_part_holds : PySem.Challenge.rw_provenruns_k01_statements_and_their_part.Holds := by
  w_on; o_law; k_head; (case hw => w_witness2)
  k_fill
  refine X1.walkG (l := PySem.Challenge.rw_provenruns_k01_statements_and_their_part) ?hn ?hdf ?hrec (fun w h Y => PySem.W.km_in_of Y) ?F
  case hn => exact rfl
  case hdf => exact rfl
  case hrec => first | rfl | decide +kernel
  case F =>
    intro w mg fa h Y KX G hmg hO
    refine' Law.all_mk (w := w) KX G hmg hO ?a_BadCode ?a_BadCommand ?a_BadHouse ?a_BadLibrary ?a_BadName ?a_BadNumber ?a_BadPaper ?a_BadSheet ?a_BadStatement ?a_BadTerm ?a_BadText ?a_BadValue ?a_Misfit ?a_Nothing ?a_PartError ?a_RunError ?a_TooMany ?a0 ?l0 ?e0 ?p0 ?a1 ?l1 ?e1 ?p1 ?a2 ?l2 ?e2 ?p2 ?a3 ?l3 ?e3 ?p3 ?a4 ?l4 ?e4 ?p4 ?a5 ?l5 ?e5 ?p5 ?q5 ?a6 ?l6 ?e6 ?p6 ?a7 ?l7 ?e7 ?p7 ?a8 ?l8 ?e8 ?p8 ?a9 ?l9 ?e9 ?p9 ?a10 ?l10 ?e10 ?p10 ?a11 ?l11 ?e11 ?p11 ?a12 ?l12 ?e12 ?p12 ?a13 ?l13 ?e13 ?p13 ?a14 ?l14 ?e14 ?p14 ?a15 ?l15 ?e15 ?p15 ?a16 ?l16 ?e16 ?p16 ?a17 ?l17 ?e17 ?p17 ?a18 ?l18 ?e18 ?p18 ?a19 ?l19 ?e19 ?p19 ?a20 ?l20 ?e20 ?p20 ?a21 ?l21 ?e21 ?p21 ?a22 ?l22 ?e22 ?p22 ?a23 ?l23 ?e23 ?p23 ?a24 ?l24 ?e24 ?p24 ?a25 ?l25 ?e25 ?p25 ?a26 ?l26 ?e26 ?p26 ?a27 ?l27 ?e27 ?p27 ?a28 ?l28 ?e28 ?p28 ?z_abs ?z_all ?z_any ?z_int ?z_isinstance ?z_len ?z_list ?z_range ?z_repr ?z_set ?z_sorted ?z_str ?z_tuple ?g_JOINS ?l_JOINS ?v_JOINS ?g_LETTERS ?g_MOST_PARTS ?g_MOST_SIGNS ?g_NO ?g_OR ?g_WORDS ?l_WORDS ?v_WORDS ?g_YES ?u0 ?u1 ?u2 ?u3 ?u4 ?u5 ?u6 ?u7 ?u8 ?u9 ?u10 ?u11 ?o1 ?o2 ?y1_BadCode ?y2_BadCode ?y1_BadCommand ?y2_BadCommand ?y1_BadHouse ?y2_BadHouse ?y1_BadLibrary ?y2_BadLibrary ?y1_BadName ?y2_BadName ?y1_BadNumber ?y2_BadNumber ?y1_BadPaper ?y2_BadPaper ?y1_BadSheet ?y2_BadSheet ?y1_BadStatement ?y2_BadStatement ?y1_BadTerm ?y2_BadTerm ?y1_BadText ?y2_BadText ?y1_BadValue ?y2_BadValue ?y1_Misfit ?y2_Misfit ?y1_Nothing ?y2_Nothing ?y1_PartError ?y2_PartError ?y1_RunError ?y2_RunError ?y1_TooMany ?y2_TooMany ?y3_RunError ?x0_0 ?x1_0 ?x2_0 ?x3_0 ?x4_0 ?x5_0 ?x6_0 ?x7_0 ?x8_0 ?x9_0 ?xa_0 ?xb_0 ?xc_0 ?xd_0 ?xe_0 ?xf_0 ?s0_BadCode ?s0_BadCommand ?s0_BadHouse ?s0_BadLibrary ?s0_BadName ?s0_BadNumber ?s0_BadPaper ?s0_BadSheet ?s0_BadStatement ?s0_BadTerm ?s0_BadText ?s0_BadValue ?s0_Misfit ?s0_Nothing ?s0_PartError ?s0_RunError ?s0_TooMany ?w0 ?w1 ?w2 ?w3
    (case a_BadCode => k_is)
    (case a_BadCommand => k_is)
    (case a_BadHouse => k_is)
    (case a_BadLibrary => k_is)
    (case a_BadName => k_is)
    (case a_BadNumber => k_is)
    (case a_BadPaper => k_is)
    (case a_BadSheet => k_is)
    (case a_BadStatement => k_is)
    (case a_BadTerm => k_is)
    (case a_BadText => k_is)
    (case a_BadValue => k_is)
    (case a_Misfit => k_is)
    (case a_Nothing => k_is)
    (case a_PartError => k_is)
    (case a_RunError => k_is)
    (case a_TooMany => k_is)
    (case a0 => k_is)
    (case l0 => k_is)
    (case e0 => k_is)
    (case p0 => k_is)
    (case a1 => k_is)
    (case l1 => k_is)
    (case e1 => k_is)
    (case p1 => k_is)
    (case a2 => k_is)
    (case l2 => k_is)
    (case e2 => k_is)
    (case p2 => k_is)
    (case a3 => k_is)
    (case l3 => k_is)
    (case e3 => k_is)
    (case p3 => k_is)
    (case a4 => k_is)
    (case l4 => k_is)
    (case e4 => k_is)
    (case p4 => k_is)
    (case a5 => k_is)
    (case l5 => k_is)
    (case e5 => k_is)
    (case p5 => k_is)
    (case q5 => k_is)
    (case a6 => k_is)
    (case l6 => k_is)
    (case e6 => k_is)
    (case p6 => k_is)
    (case a7 => k_is)
    (case l7 => k_is)
    (case e7 => k_is)
    (case p7 => k_is)
    (case a8 => k_is)
    (case l8 => k_is)
    (case e8 => k_is)
    (case p8 => k_is)
    (case a9 => k_is)
    (case l9 => k_is)
    (case e9 => k_is)
    (case p9 => k_is)
    (case a10 => k_is)
    (case l10 => k_is)
    (case e10 => k_is)
    (case p10 => k_is)
    (case a11 => k_is)
    (case l11 => k_is)
    (case e11 => k_is)
    (case p11 => k_is)
    (case a12 => k_is)
    (case l12 => k_is)
    (case e12 => k_is)
    (case p12 => k_is)
    (case a13 => k_is)
    (case l13 => k_is)
    (case e13 => k_is)
    (case p13 => k_is)
    (case a14 => k_is)
    (case l14 => k_is)
    (case e14 => k_is)
    (case p14 => k_is)
    (case a15 => k_is)
    (case l15 => k_is)
    (case e15 => k_is)
    (case p15 => k_is)
    (case a16 => k_is)
    (case l16 => k_is)
    (case e16 => k_is)
    (case p16 => k_is)
    (case a17 => k_is)
    (case l17 => k_is)
    (case e17 => k_is)
    (case p17 => k_is)
    (case a18 => k_is)
    (case l18 => k_is)
    (case e18 => k_is)
    (case p18 => k_is)
    (case a19 => k_is)
    (case l19 => k_is)
    (case e19 => k_is)
    (case p19 => k_is)
    (case a20 => k_is)
    (case l20 => k_is)
    (case e20 => k_is)
    (case p20 => k_is)
    (case a21 => k_is)
    (case l21 => k_is)
    (case e21 => k_is)
    (case p21 => k_is)
    (case a22 => k_is)
    (case l22 => k_is)
    (case e22 => k_is)
    (case p22 => k_is)
    (case a23 => k_is)
    (case l23 => k_is)
    (case e23 => k_is)
    (case p23 => k_is)
    (case a24 => k_is)
    (case l24 => k_is)
    (case e24 => k_is)
    (case p24 => k_is)
    (case a25 => k_is)
    (case l25 => k_is)
    (case e25 => k_is)
    (case p25 => k_is)
    (case a26 => k_is)
    (case l26 => k_is)
    (case e26 => k_is)
    (case p26 => k_is)
    (case a27 => k_is)
    (case l27 => k_is)
    (case e27 => k_is)
    (case p27 => k_is)
    (case a28 => k_is)
    (case l28 => k_is)
    (case e28 => k_is)
    (case p28 => k_is)
    (case z_abs => k_is)
    (case z_all => k_is)
    (case z_any => k_is)
    (case z_int => k_is)
    (case z_isinstance => k_is)
    (case z_len => k_is)
    (case z_list => k_is)
    (case z_range => k_is)
    (case z_repr => k_is)
    (case z_set => k_is)
    (case z_sorted => k_is)
    (case z_str => k_is)
    (case z_tuple => k_is)
    (case g_JOINS => k_is)
    (case l_JOINS => k_is)
    (case v_JOINS => exact (.cons ⟨_, rfl⟩ (.cons ⟨_, rfl⟩ (.cons ⟨_, rfl⟩ .nil))))
    (case g_LETTERS => k_is)
    (case g_MOST_PARTS => k_is)
    (case g_MOST_SIGNS => k_is)
    (case g_NO => k_is)
    (case g_OR => k_is)
    (case g_WORDS => k_is)
    (case l_WORDS => k_is)
    (case v_WORDS => exact (.cons ⟨_, rfl⟩ (.cons ⟨_, rfl⟩ (.cons ⟨_, rfl⟩ (.cons ⟨_, rfl⟩ (.cons ⟨_, rfl⟩ (.cons ⟨_, rfl⟩ (.cons ⟨_, rfl⟩ (.cons ⟨_, rfl⟩ (.cons ⟨_, rfl⟩ (.cons ⟨_, rfl⟩ (.cons ⟨_, rfl⟩ (.cons ⟨_, rfl⟩ (.cons ⟨_, rfl⟩ (.cons ⟨_, rfl⟩ (.cons ⟨_, rfl⟩ (.cons ⟨_, rfl⟩ .nil)))))))))))))))))
    (case g_YES => k_is)
    (case u0 => k_is)
    (case u1 => k_is)
    (case u2 => k_is)
    (case u3 => k_is)
    (case u4 => k_is)
    (case u5 => first | rfl | k_is)
    (case u6 => first | rfl | decide +kernel)
    (case u7 => k_is)
    (case u8 => k_is)
    (case u9 => k_is)
    (case u10 => first | rfl | decide +kernel)
    (case u11 => k_is)
    (case o1 => k_is)
    (case o2 => k_is)
    (case y1_BadCode => k_is)
    (case y2_BadCode => k_is)
    (case y1_BadCommand => k_is)
    (case y2_BadCommand => k_is)
    (case y1_BadHouse => k_is)
    (case y2_BadHouse => k_is)
    (case y1_BadLibrary => k_is)
    (case y2_BadLibrary => k_is)
    (case y1_BadName => k_is)
    (case y2_BadName => k_is)
    (case y1_BadNumber => k_is)
    (case y2_BadNumber => k_is)
    (case y1_BadPaper => k_is)
    (case y2_BadPaper => k_is)
    (case y1_BadSheet => k_is)
    (case y2_BadSheet => k_is)
    (case y1_BadStatement => k_is)
    (case y2_BadStatement => k_is)
    (case y1_BadTerm => k_is)
    (case y2_BadTerm => k_is)
    (case y1_BadText => k_is)
    (case y2_BadText => k_is)
    (case y1_BadValue => k_is)
    (case y2_BadValue => k_is)
    (case y1_Misfit => k_is)
    (case y2_Misfit => k_is)
    (case y1_Nothing => k_is)
    (case y2_Nothing => k_is)
    (case y1_PartError => k_is)
    (case y2_PartError => k_is)
    (case y1_RunError => k_is)
    (case y2_RunError => k_is)
    (case y1_TooMany => k_is)
    (case y2_TooMany => k_is)
    (case y3_RunError => k_is)
    (case x0_0 => k_is)
    (case x1_0 => first | rfl | decide +kernel)
    (case x2_0 => k_is)
    (case x3_0 => k_is)
    (case x4_0 => k_is)
    (case x5_0 => k_is)
    (case x6_0 => k_is)
    (case x7_0 => k_is)
    (case x8_0 => k_is)
    (case x9_0 => k_is)
    (case xa_0 => k_is)
    (case xb_0 => k_is)
    (case xc_0 => first | ks_is | kernel_rfl)
    (case xd_0 => k_is)
    (case xe_0 => k_is)
    (case xf_0 => k_is)
    (case s0_BadCode => first | k_is | rfl | decide +kernel)
    (case s0_BadCommand => first | k_is | rfl | decide +kernel)
    (case s0_BadHouse => first | k_is | rfl | decide +kernel)
    (case s0_BadLibrary => first | k_is | rfl | decide +kernel)
    (case s0_BadName => first | k_is | rfl | decide +kernel)
    (case s0_BadNumber => first | k_is | rfl | decide +kernel)
    (case s0_BadPaper => first | k_is | rfl | decide +kernel)
    (case s0_BadSheet => first | k_is | rfl | decide +kernel)
    (case s0_BadStatement => first | k_is | rfl | decide +kernel)
    (case s0_BadTerm => first | k_is | rfl | decide +kernel)
    (case s0_BadText => first | k_is | rfl | decide +kernel)
    (case s0_BadValue => first | k_is | rfl | decide +kernel)
    (case s0_Misfit => first | k_is | rfl | decide +kernel)
    (case s0_Nothing => first | k_is | rfl | decide +kernel)
    (case s0_PartError => first | k_is | rfl | decide +kernel)
    (case s0_RunError => first | k_is | rfl | decide +kernel)
    (case s0_TooMany => first | k_is | rfl | decide +kernel)
    (case w0 => k_is)
    (case w1 => first | rfl | k_is)
    (case w2 => first | k_is | rfl | decide +kernel | kernel_rfl)
    (case w3 => first | k_is | kernel_rfl)
#print axioms PySem.Challenge.cw_provenruns_k01_statements_and_their_part_holds
