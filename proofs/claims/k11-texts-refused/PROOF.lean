import PyProof.Rows.All
import Wide.All
import OpenK.AllK
import Wide.FinOn
import HandS.ForMost
import HandS.Walk
import HandS.IsInst
import HandS.SetFor
import HandS.SortInts
import HandS.Strs
import HandS.TupAny
import HandS.Conv
import HandS.Style
import HandS.Ends
import HandS.Words
import HandS.NamedTupSort
import KE.LtData
import HandS.TupLe
import HandS.Text
import HandS.Exc
import HandS.ExcOwn
import HandS.WordsExc
import HandS.ExcValue
import HandS.ExcIs
import HandS.DictComp
import PySem.Challenge.RW_stonerow_k11_texts_refused
set_option Elab.async false
set_option linter.all false
set_option maxRecDepth 100000
set_option maxHeartbeats 8000000
/-! PCore: pure data over the hand layer: Rp (a value bears a datum), the state St, the judgements Ev, Et, Ea, Xs. -/
namespace PL
open PySem L2
abbrev D := PyData

/-- the key's datum -/
def kD : Key → D
  | .inl i => .int i
  | .inr x => .str x
mutual
/-- in the heap G the value bears the datum -/
def Rp (G : Hp) : D → V → Prop
  | .none, v => v = .non
  | .bool b, v => v = .bl b
  | .int i, v => v = .int i
  | .str s, v => v = .str s
  | .list ds, v => ∃ a vs, v = .ref a ∧ G a = some (.lst vs) ∧ RpA G ds vs
  | .tuple ds, v => ∃ a vs, v = .ref a ∧ G a = some (.tup vs) ∧ RpA G ds vs
  | .dict kvs, v => ∃ a ks, v = .ref a ∧ G a = some (.dK ks) ∧ RpD G kvs ks
def RpA (G : Hp) : List D → List V → Prop
  | [], vs => vs = []
  | d :: ds, vs => ∃ v r, vs = v :: r ∧ Rp G d v ∧ RpA G ds r
def RpD (G : Hp) : List (D × D) → List (Key × V) → Prop
  | [], ks => ks = []
  | (kd, d) :: ps, ks => ∃ k v r, ks = (k, v) :: r ∧ kD k = kd ∧ Rp G d v ∧ RpD G ps r
end
mutual
theorem Rp.mono {G G' : Hp} (e : Same G G') : ∀ (d : D) (v : V), Rp G d v → Rp G' d v
  | .none, _, h => h
  | .bool _, _, h => h
  | .int _, _, h => h
  | .str _, _, h => h
  | .list ds, _, ⟨a, vs, h1, h2, h3⟩ => ⟨a, vs, h1, e _ _ h2, RpA.mono e ds vs h3⟩
  | .tuple ds, _, ⟨a, vs, h1, h2, h3⟩ => ⟨a, vs, h1, e _ _ h2, RpA.mono e ds vs h3⟩
  | .dict kvs, _, ⟨a, ks, h1, h2, h3⟩ => ⟨a, ks, h1, e _ _ h2, RpD.mono e kvs ks h3⟩
theorem RpA.mono {G G' : Hp} (e : Same G G') : ∀ (ds : List D) (vs : List V), RpA G ds vs → RpA G' ds vs
  | [], _, h => h
  | d :: ds, _, ⟨v, r, h1, h2, h3⟩ => ⟨v, r, h1, Rp.mono e d v h2, RpA.mono e ds r h3⟩
theorem RpD.mono {G G' : Hp} (e : Same G G') : ∀ (kvs : List (D × D)) (ks : List (Key × V)), RpD G kvs ks → RpD G' kvs ks
  | [], _, h => h
  | (kd, d) :: ps, _, ⟨k, v, r, h1, h2, h3, h4⟩ => ⟨k, v, r, h1, h2, Rp.mono e d v h3, RpD.mono e ps r h4⟩
end

/-! ### lists of data -/
theorem RpA.len {G : Hp} : ∀ {ds : List D} {vs : List V}, RpA G ds vs → vs.length = ds.length
  | [], _, h => by cases h; rfl
  | _ :: _, _, ⟨_, _, h1, _, h3⟩ => by subst h1; simp [RpA.len h3]
theorem RpA.get {G : Hp} : ∀ {ds : List D} {vs : List V} {i : Nat} {d : D}, RpA G ds vs → ds[i]? = some d → ∃ v, vs[i]? = some v ∧ Rp G d v
  | [], _, _, _, _, e => by simp at e
  | _ :: _, _, 0, _, ⟨v, _, h1, h2, _⟩, e => by subst h1; simp at e; subst e; exact ⟨v, rfl, h2⟩
  | _ :: _, _, i + 1, _, ⟨_, _, h1, _, h3⟩, e => by
    subst h1
    obtain ⟨v, q1, q2⟩ := RpA.get (i := i) h3 (by simpa using e)
    exact ⟨v, by simpa using q1, q2⟩
theorem RpA.append {G : Hp} : ∀ {ds es : List D} {vs us : List V}, RpA G ds vs → RpA G es us → RpA G (ds ++ es) (vs ++ us)
  | [], _, _, _, h, k => by cases h; exact k
  | _ :: _, _, _, _, ⟨v, r, h1, h2, h3⟩, k => by subst h1; exact ⟨v, r ++ _, rfl, h2, RpA.append h3 k⟩
theorem RpA.one {G : Hp} {d : D} {v : V} (h : Rp G d v) : RpA G [d] [v] := ⟨v, [], rfl, h, rfl⟩
theorem RpA.snoc {G : Hp} {ds : List D} {d : D} {vs : List V} {v : V} (h : RpA G ds vs) (k : Rp G d v) : RpA G (ds ++ [d]) (vs ++ [v]) := h.append (.one k)
theorem RpA.take {G : Hp} : ∀ {ds : List D} {vs : List V} (n : Nat), RpA G ds vs → RpA G (ds.take n) (vs.take n)
  | _, _, 0, _ => by simp [RpA]
  | [], _, _ + 1, h => by cases h; simp [RpA]
  | _ :: _, _, n + 1, ⟨v, r, h1, h2, h3⟩ => by subst h1; exact ⟨v, _, rfl, h2, RpA.take n h3⟩
theorem RpA.drop {G : Hp} : ∀ {ds : List D} {vs : List V} (n : Nat), RpA G ds vs → RpA G (ds.drop n) (vs.drop n)
  | _, _, 0, h => by simpa using h
  | [], _, _ + 1, h => by cases h; simp [RpA]
  | _ :: _, _, n + 1, ⟨_, _, h1, _, h3⟩ => by subst h1; simpa using RpA.drop n h3
theorem RpA.set {G : Hp} {d : D} {v : V} (k : Rp G d v) : ∀ {ds : List D} {vs : List V} (n : Nat), RpA G ds vs → RpA G (ds.set n d) (vs.set n v)
  | [], _, _, h => by cases h; simp [RpA]
  | _ :: _, _, 0, ⟨_, r, h1, _, h3⟩ => by subst h1; exact ⟨v, r, rfl, k, h3⟩
  | _ :: _, _, n + 1, ⟨w, _, h1, h2, h3⟩ => by subst h1; exact ⟨w, _, rfl, h2, RpA.set k n h3⟩
theorem RpA.eraseIdx {G : Hp} : ∀ {ds : List D} {vs : List V} (n : Nat), RpA G ds vs → RpA G (ds.eraseIdx n) (vs.eraseIdx n)
  | [], _, _, h => by cases h; simp [RpA]
  | _ :: _, _, 0, ⟨_, r, h1, _, h3⟩ => by subst h1; exact h3
  | _ :: _, _, n + 1, ⟨w, _, h1, h2, h3⟩ => by subst h1; exact ⟨w, _, rfl, h2, RpA.eraseIdx n h3⟩
theorem RpA.reverse {G : Hp} : ∀ {ds : List D} {vs : List V}, RpA G ds vs → RpA G ds.reverse vs.reverse
  | [], _, h => by cases h; simp [RpA]
  | d :: ds, _, ⟨v, r, h1, h2, h3⟩ => by
    subst h1
    rw [List.reverse_cons, List.reverse_cons]
    exact (RpA.reverse h3).snoc h2
/-- ints -/
theorem RpA.ints {G : Hp} : ∀ (ns : List Int), RpA G (ns.map PyData.int) (ns.map V.int)
  | [] => rfl
  | n :: ns => ⟨_, _, rfl, rfl, RpA.ints ns⟩
theorem RpA.of_ints {G : Hp} : ∀ {ns : List Int} {vs : List V}, RpA G (ns.map PyData.int) vs → vs = ns.map V.int
  | [], _, h => h
  | n :: ns, _, ⟨_, _, h1, h2, h3⟩ => by
    have h2 : _ = V.int n := h2
    subst h1 h2
    rw [RpA.of_ints h3]
    rfl
theorem RpA.strs {G : Hp} : ∀ (ns : List Str), RpA G (ns.map PyData.str) (ns.map V.str)
  | [] => rfl
  | n :: ns => ⟨_, _, rfl, rfl, RpA.strs ns⟩
theorem RpA.of_strs {G : Hp} : ∀ {ns : List Str} {vs : List V}, RpA G (ns.map PyData.str) vs → vs = ns.map V.str
  | [], _, h => h
  | n :: ns, _, ⟨_, _, h1, h2, h3⟩ => by
    have h2 : _ = V.str n := h2
    subst h1 h2
    rw [RpA.of_strs h3]
    rfl
theorem RpA.of_bools {G : Hp} : ∀ {ns : List Bool} {vs : List V}, RpA G (ns.map PyData.bool) vs → vs = ns.map V.bl
  | [], _, h => h
  | n :: ns, _, ⟨_, _, h1, h2, h3⟩ => by
    have h2 : _ = V.bl n := h2
    subst h1 h2
    rw [RpA.of_bools h3]
    rfl

/-! ### growth -/
theorem same_new {H : Hp} {p : Addr} {o : HO} (h : H p = none) : Same H (upd H p o) := fun a u e => by
  rw [upd_ne (ne_of_none e h)]
  exact e
theorem same_mut {H H' : Hp} {p : Addr} {o : HO} (e : Same H H') (h : H p = none) : Same H (upd H' p o) := fun a u ha => by
  rw [upd_ne (ne_of_none ha h)]
  exact e a u ha
/-- from G within H to G2 within H2: what G2 has more is new to H -/
structure Gr (G H G2 H2 : Hp) : Prop where
  g : Same G G2
  h : Same H H2
  n : ∀ a, H a ≠ none → G a = none → G2 a = none
  i : Same G2 H2
theorem Gr.refl {G H : Hp} (i : Same G H) : Gr G H G H := ⟨Same.refl G, Same.refl H, fun _ _ h => h, i⟩
theorem Gr.trans {G H G1 H1 G2 H2 : Hp} (a : Gr G H G1 H1) (b : Gr G1 H1 G2 H2) : Gr G H G2 H2 :=
  ⟨a.g.trans b.g, a.h.trans b.h, fun x hx gx => b.n x (fun e => by
    cases q : H x with
    | none => exact hx q
    | some o => rw [a.h x o q] at e; cases e) (a.n x hx gx), b.i⟩
/-- a new object -/
theorem Gr.new {G H : Hp} {p : Addr} {o : HO} (i : Same G H) (h : H p = none) : Gr G H (upd G p o) (upd H p o) := by
  have hg : G p = none := i.free h
  refine ⟨same_new hg, same_new h, fun a ha ga => ?_, fun a u e => ?_⟩
  · have ne : a ≠ p := fun z => ha (by rw [z]; exact h)
    rw [upd_ne ne]; exact ga
  · by_cases ne : a = p
    · subst ne; rw [upd_same] at e ⊢; exact e
    · rw [upd_ne ne] at e ⊢; exact i a u e
/-- .. where H alone grows -/
theorem Gr.side {G H H2 : Hp} (i : Same G H) (e : Same H H2) : Gr G H G H2 := ⟨Same.refl G, e, fun _ _ h => h, i.trans e⟩

/-! ### slots -/
/-- the heaps at a def's entry: the data, all -/
structure Ent where
  K : PySem.W.Frag
  G : Hp
  H : Hp
/-- a dict's entries -/
def RpK (G : Hp) : List (Key × D) → List (Key × V) → Prop
  | [], ks => ks = []
  | (k, d) :: ps, ks => ∃ v r, ks = (k, v) :: r ∧ Rp G d v ∧ RpK G ps r
theorem RpK.mono {G G' : Hp} (e : Same G G') : ∀ {kvs : List (Key × D)} {ks : List (Key × V)}, RpK G kvs ks → RpK G' kvs ks
  | [], _, h => h
  | (k, d) :: ps, _, ⟨v, r, h1, h2, h3⟩ => ⟨v, r, h1, Rp.mono e d v h2, RpK.mono e h3⟩
/-- what is known of a slot: nothing | its datum | its very value | a list of ints that may be read (the script) | a list of its own (no other one knows it) | a dict of its own | a value with objects of its own, F -/
inductive Sl where
  | no | d (x : D) | v (x : V) | s (ns : List Int) | ow (xs : List D) | od (kvs : List (Key × D)) | ob (P : Hp → Hp → V → Prop)
/-- G the data, F the slot's own objects -/
def SlR (E : Ent) (G F : Hp) : Sl → Option V → Prop
  | .no, _ => True
  | .d x, o => ∃ v, o = some v ∧ Rp G x v
  | .v x, o => o = some x
  | .s ns, o => ∃ a, o = some (.ref a) ∧ SqL E.K E.H a (ns.map V.int)
  | .ow xs, o => ∃ p vs, o = some (.ref p) ∧ F p = some (.lst vs) ∧ RpA G xs vs
  | .od kvs, o => ∃ p ks, o = some (.ref p) ∧ F p = some (.dK ks) ∧ RpK G kvs ks
  | .ob P, o => ∃ v, o = some v ∧ ∀ G', Same G G' → P G' F v
theorem SlR.mono {E : Ent} {G G' F : Hp} (e : Same G G') : ∀ {s : Sl} {o : Option V}, SlR E G F s o → SlR E G' F s o
  | .no, _, _ => trivial
  | .d _, _, ⟨v, h1, h2⟩ => ⟨v, h1, Rp.mono e _ _ h2⟩
  | .v _, _, h => h
  | .s _, _, h => h
  | .ow _, _, ⟨p, vs, h1, h2, h3⟩ => ⟨p, vs, h1, h2, RpA.mono e _ _ h3⟩
  | .od _, _, ⟨p, ks, h1, h2, h3⟩ => ⟨p, ks, h1, h2, RpK.mono e h3⟩
  | .ob _, _, ⟨v, h1, h2⟩ => ⟨v, h1, fun G2 e2 => h2 G2 (e.trans e2)⟩
/-- it owns nothing -/
def Sl.bare : Sl → Bool
  | .ow _ => false
  | .od _ => false
  | .ob _ => false
  | _ => true
theorem SlR.bare {E : Ent} {G F F' : Hp} : ∀ {s : Sl} {o : Option V}, s.bare = true → SlR E G F s o → SlR E G F' s o
  | .no, _, _, h => h
  | .d _, _, _, h => h
  | .v _, _, _, h => h
  | .s _, _, _, h => h
  | .ow _, _, b, _ => nomatch b
  | .od _, _, b, _ => nomatch b
  | .ob _, _, b, _ => nomatch b
def none0 : Hp := fun _ => none
/-- the slots' own objects: they stand in H, apart from the data, from what was at the entry, from each other -/
structure Reg (E : Ent) (δ : List Sl) (σ : L2.St) (G H : Hp) (F : Nat → Hp) : Prop where
  in_ : ∀ j, Same (F j) H
  out : ∀ j a, F j a ≠ none → G a = none ∧ E.H a = none
  ap : ∀ j k a, j ≠ k → F j a ≠ none → F k a = none
  sl : ∀ (j : Nat) (s : Sl) (o : Option V), δ[j]? = some s → σ[j]? = some o → SlR E G (F j) s o
structure St (E : Ent) (δ : List Sl) (σ : L2.St) (G H : Hp) : Prop where
  g : Same E.G G
  h : Same E.H H
  n : ∀ a, E.H a ≠ none → E.G a = none → G a = none
  i : Same G H
  len : σ.length = δ.length
  rg : ∃ F, Reg E δ σ G H F
section
variable {E : Ent} {δ : List Sl} {σ : L2.St} {G H G2 H2 : Hp}
theorem not_none {H H2 : Hp} {a : Addr} (e : Same H H2) (h : H a ≠ none) : H2 a ≠ none := fun z => by
  cases q : H a with
  | none => exact h q
  | some o => rw [e a o q] at z; cases z
theorem Reg.grow {F : Nat → Hp} (s : Reg E δ σ G H F) (r : Gr G H G2 H2) : Reg E δ σ G2 H2 F where
  in_ := fun j => (s.in_ j).trans r.h
  out := fun j a h => ⟨r.n a (not_none (s.in_ j) h) (s.out j a h).1, (s.out j a h).2⟩
  ap := s.ap
  sl := fun j t o h1 h2 => (s.sl j t o h1 h2).mono r.g
theorem St.grow (s : St E δ σ G H) (r : Gr G H G2 H2) : St E δ σ G2 H2 where
  g := s.g.trans r.g
  h := s.h.trans r.h
  n := fun a h1 h2 => r.n a (not_none s.h h1) (s.n a h1 h2)
  i := r.i
  len := s.len
  rg := let ⟨F, q⟩ := s.rg; ⟨F, q.grow r⟩
theorem St.here (s : St E δ σ G H) {i : Nat} {t : Sl} (h : δ[i]? = some t) : ∃ o, σ[i]? = some o := by
  have hl : i < σ.length := by rw [s.len]; exact (List.getElem?_eq_some_iff.mp h).1
  exact ⟨σ[i], List.getElem?_eq_getElem hl⟩
theorem St.atD (s : St E δ σ G H) {i : Nat} {x : D} (h : δ[i]? = some (.d x)) : ∃ v, σ[i]? = some (some v) ∧ Rp G x v := by
  obtain ⟨o, ho⟩ := s.here h
  obtain ⟨F, q⟩ := s.rg
  obtain ⟨v, e, r⟩ := q.sl i _ o h ho
  subst e
  exact ⟨v, ho, r⟩
theorem St.atV (s : St E δ σ G H) {i : Nat} {x : V} (h : δ[i]? = some (.v x)) : σ[i]? = some (some x) := by
  obtain ⟨o, ho⟩ := s.here h
  obtain ⟨F, q⟩ := s.rg
  have e : o = some x := q.sl i _ o h ho
  rw [← e]; exact ho
theorem St.atS (s : St E δ σ G H) {i : Nat} {ns : List Int} (h : δ[i]? = some (.s ns)) : ∃ a, σ[i]? = some (some (.ref a)) ∧ SqL E.K E.H a (ns.map V.int) := by
  obtain ⟨o, ho⟩ := s.here h
  obtain ⟨F, q⟩ := s.rg
  obtain ⟨a, e, r⟩ := q.sl i _ o h ho
  subst e
  exact ⟨a, ho, r⟩
theorem St.atOw (s : St E δ σ G H) {i : Nat} {xs : List D} (h : δ[i]? = some (.ow xs)) : ∃ p vs, σ[i]? = some (some (.ref p)) ∧ H p = some (.lst vs) ∧ RpA G xs vs ∧ G p = none ∧ E.H p = none := by
  obtain ⟨o, ho⟩ := s.here h
  obtain ⟨F, q⟩ := s.rg
  obtain ⟨p, vs, e, h1, r⟩ := q.sl i _ o h ho
  subst e
  have z := q.out i p (by rw [h1]; simp)
  exact ⟨p, vs, ho, q.in_ i p _ h1, r, z.1, z.2⟩
theorem St.atOd (s : St E δ σ G H) {i : Nat} {xs : List (Key × D)} (h : δ[i]? = some (.od xs)) : ∃ p ks, σ[i]? = some (some (.ref p)) ∧ H p = some (.dK ks) ∧ RpK G xs ks ∧ G p = none ∧ E.H p = none := by
  obtain ⟨o, ho⟩ := s.here h
  obtain ⟨F, q⟩ := s.rg
  obtain ⟨p, vs, e, h1, r⟩ := q.sl i _ o h ho
  subst e
  have z := q.out i p (by rw [h1]; simp)
  exact ⟨p, vs, ho, q.in_ i p _ h1, r, z.1, z.2⟩
/-- THE STEP: slot i is stored anew, its own objects from here on F'; of what stood, only the slot's own objects may have changed -/
theorem Reg.step {F : Nat → Hp} (q : Reg E δ σ G H F) (hi : Same G H) (i : Nat) (t : Sl) (o' : Option V) (F' : Hp) (eg : Same G G2) (i2 : Same G2 H2) (hn : ∀ a, H a ≠ none → G a = none → G2 a = none)
    (kp : ∀ a o, H a = some o → F i a = none → H2 a = some o) (in2 : Same F' H2) (out2 : ∀ a, F' a ≠ none → G2 a = none ∧ E.H a = none) (new : ∀ a, F' a ≠ none → F i a ≠ none ∨ H a = none) (hs : SlR E G2 F' t o') :
    Reg E (δ.set i t) (σ.set i o') G2 H2 (fun j => if j = i then F' else F j) where
  in_ := fun j => by
    by_cases e : j = i
    · simp only [e, if_true]; exact in2
    · simp only [e, if_false]
      intro a o h
      exact kp a o (q.in_ j a o h) (q.ap j i a e (by rw [h]; simp))
  out := fun j a h => by
    by_cases e : j = i
    · simp only [e, if_true] at h; exact out2 a h
    · simp only [e, if_false] at h
      have z := q.out j a h
      exact ⟨hn a (not_none (q.in_ j) h) z.1, z.2⟩
  ap := fun j k a ne h => by
    have other : ∀ m, m ≠ i → F m a ≠ none → F' a = none := fun m hm hf => by
      cases z : F' a with
      | none => rfl
      | some u =>
        rcases new a (by rw [z]; simp) with w | w
        · exact absurd (q.ap m i a hm hf) w
        · exact absurd w (not_none (q.in_ m) hf)
    by_cases e : j = i
    · have e2 : k ≠ i := fun z => ne (e.trans z.symm)
      simp only [e, if_true] at h
      simp only [e2, if_false]
      cases z : F k a with
      | none => rfl
      | some u => exact absurd (other k e2 (by rw [z]; simp)) h
    · simp only [e, if_false] at h
      by_cases e2 : k = i
      · simp only [e2, if_true]; exact other j e h
      · simp only [e2, if_false]; exact q.ap j k a ne h
  sl := fun j s o h1 h2 => by
    by_cases e : j = i
    · subst e
      simp only [if_true]
      rw [List.getElem?_set] at h1 h2
      simp only [if_true] at h1 h2
      split at h1
      · split at h2
        · cases h1; cases h2; exact hs
        · cases h2
      · cases h1
    · simp only [e, if_false]
      rw [List.getElem?_set_ne (Ne.symm e)] at h1 h2
      exact (q.sl j s o h1 h2).mono eg
/-- .. where the heap has only grown -/
theorem St.put (s : St E δ σ G H) (r : Gr G H G2 H2) (i : Nat) (t : Sl) (o' : Option V) (F' : Hp) (in2 : Same F' H2) (new : ∀ a, F' a ≠ none → H a = none ∧ G2 a = none) (hs : SlR E G2 F' t o') : St E (δ.set i t) (σ.set i o') G2 H2 := by
  have s2 := s.grow r
  obtain ⟨F, q⟩ := s.rg
  exact ⟨s2.g, s2.h, s2.n, s2.i, by simp [s.len], _, q.step s.i i t o' F' r.g r.i r.n (fun a o h _ => r.h a o h) in2 (fun a h => ⟨(new a h).2, s.h.free (new a h).1⟩) (fun a h => .inr (new a h).1) hs⟩
theorem St.putB (s : St E δ σ G H) (i : Nat) (t : Sl) (o' : Option V) (hs : SlR E G none0 t o') : St E (δ.set i t) (σ.set i o') G H :=
  s.put (Gr.refl s.i) i t o' none0 (fun _ _ z => nomatch z) (fun _ z => absurd rfl z) hs
/-- a slot is set to a datum -/
theorem St.setD (s : St E δ σ G H) (i : Nat) {x : D} {v : V} (h : Rp G x v) : St E (δ.set i (.d x)) (σ.set i (some v)) G H := s.putB i _ _ ⟨v, rfl, h⟩
theorem set_get {α : Type} {l : List α} {i : Nat} {x : α} (h : l[i]? = some x) : l.set i x = l := by
  apply List.ext_getElem?
  intro j
  rw [List.getElem?_set]
  by_cases e : i = j
  · subst e
    rw [if_pos rfl]
    rw [h]
    exact if_pos (List.getElem?_eq_some_iff.mp h).1
  · rw [if_neg e]
theorem set_out {α : Type} {l : List α} {i : Nat} {x : α} (h : l[i]? = none) : l.set i x = l := List.set_eq_of_length_le (List.getElem?_eq_none_iff.mp h)
/-- what is known of a slot is changed, its value stays -/
theorem St.view (s : St E δ σ G H) (r : Gr G H G2 H2) (i : Nat) (t : Sl) (F' : Hp) (in2 : Same F' H2) (new : ∀ a, F' a ≠ none → H a = none ∧ G2 a = none) (hs : ∀ o, σ[i]? = some o → SlR E G2 F' t o) : St E (δ.set i t) σ G2 H2 := by
  cases e : σ[i]? with
  | none =>
    have : δ[i]? = none := by
      rw [List.getElem?_eq_none_iff] at e ⊢
      rw [← s.len]; exact e
    rw [set_out this]
    exact s.grow r
  | some o =>
    have := s.put r i t o F' in2 new (hs o e)
    rwa [set_get e] at this
/-- a slot is forgotten -/
theorem St.forget (s : St E δ σ G H) (i : Nat) : St E (δ.set i .no) σ G H := s.view (Gr.refl s.i) i .no none0 (fun _ _ z => nomatch z) (fun _ z => absurd rfl z) fun _ _ => trivial
/-- an own list may be shared from here on -/
theorem St.share {i : Nat} {xs : List D} (s : St E δ σ G H) (h : δ[i]? = some (.ow xs)) :
    ∃ p vs, σ[i]? = some (some (.ref p)) ∧ H p = some (.lst vs) ∧ RpA G xs vs ∧ G p = none ∧ E.H p = none ∧ St E (δ.set i (.d (.list xs))) σ (upd G p (.lst vs)) H := by
  obtain ⟨o, ho⟩ := s.here h
  obtain ⟨F, q⟩ := s.rg
  obtain ⟨p, vs, e, h1, r⟩ := q.sl i _ o h ho
  subst e
  have z := q.out i p (by rw [h1]; simp)
  have hp := q.in_ i p _ h1
  have sg : Same G (upd G p (.lst vs)) := same_new z.1
  refine ⟨p, vs, ho, hp, r, z.1, z.2, s.g.trans sg, s.h, fun a ha ga => ?_, fun a u e => ?_, by simp [s.len], fun j => if j = i then none0 else F j, ?_⟩
  · have ne : a ≠ p := fun e => ha (by rw [e]; exact z.2)
    rw [upd_ne ne]; exact s.n a ha ga
  · by_cases ne : a = p
    · subst ne; rw [upd_same] at e; cases e; exact hp
    · rw [upd_ne ne] at e; exact s.i a u e
  · refine ⟨fun j => ?_, fun j a hf => ?_, fun j k a ne hf => ?_, fun j t o q1 q2 => ?_⟩
    · by_cases e : j = i
      · simp only [e, if_true]; exact fun _ _ y => nomatch y
      · simp only [e, if_false]; exact q.in_ j
    · by_cases e : j = i
      · simp only [e, if_true] at hf; exact absurd rfl hf
      · simp only [e, if_false] at hf
        have y := q.out j a hf
        have ne : a ≠ p := fun w => hf (by rw [w]; exact q.ap i j p (Ne.symm e) (by rw [h1]; simp))
        exact ⟨by rw [upd_ne ne]; exact y.1, y.2⟩
    · by_cases e : j = i
      · simp only [e, if_true] at hf; exact absurd rfl hf
      · simp only [e, if_false] at hf
        by_cases e2 : k = i
        · simp only [e2, if_true]; rfl
        · simp only [e2, if_false]; exact q.ap j k a ne hf
    · by_cases e : j = i
      · subst e
        simp only [if_true]
        rw [List.getElem?_set] at q1
        simp only [if_true] at q1
        split at q1
        · cases q1
          rw [ho] at q2; cases q2
          exact ⟨_, rfl, p, vs, rfl, upd_same, RpA.mono sg _ _ r⟩
        · cases q1
      · simp only [e, if_false]
        rw [List.getElem?_set_ne (Ne.symm e)] at q1
        exact (q.sl j t o q1 q2).mono sg
/-- an own object at p is changed -/
theorem St.change {i : Nat} {t : Sl} {p : Addr} {u' : HO} (s : St E δ σ G H) (w : Sl) (hw : δ[i]? = some w) (hp : σ[i]? = some (some (.ref p)))
    (own : ∀ F, SlR E G F w (some (.ref p)) → F p ≠ none) (r : ∀ F, SlR E G F w (some (.ref p)) → SlR E G (upd F p u') t (some (.ref p))) : St E (δ.set i t) σ G (upd H p u') := by
  obtain ⟨F, q⟩ := s.rg
  have hs := q.sl i w _ hw hp
  have fp := own _ hs
  have z := q.out i p fp
  have i2 : Same G (upd H p u') := same_mut s.i z.1
  have := q.step s.i i t (some (.ref p)) (upd (F i) p u') (Same.refl G) i2 (fun _ _ h => h) (fun a o h hf => by
    have ne : a ≠ p := fun e => by subst e; exact fp hf
    rw [upd_ne ne]; exact h) (fun a o h => by
    by_cases e : a = p
    · subst e; rw [upd_same] at h ⊢; exact h
    · rw [upd_ne e] at h ⊢; exact q.in_ i a o h) (fun a h => by
    by_cases e : a = p
    · subst e; exact z
    · rw [upd_ne e] at h; exact q.out i a h) (fun a h => by
    by_cases e : a = p
    · subst e; exact .inl fp
    · rw [upd_ne e] at h; exact .inl h) (r _ hs)
  rw [set_get hp] at this
  exact ⟨s.g, same_mut s.h z.2, s.n, i2, by simp [s.len], _, this⟩
/-- an own list is changed -/
theorem St.mutate {i : Nat} {xs ys : List D} {p : Addr} {ws : List V} (s : St E δ σ G H) (h : δ[i]? = some (.ow xs)) (hp : σ[i]? = some (some (.ref p))) (r : RpA G ys ws) :
    St E (δ.set i (.ow ys)) σ G (upd H p (.lst ws)) := by
  refine s.change (.ow xs) h hp (fun F q => ?_) fun F q => ⟨p, ws, rfl, upd_same, r⟩
  obtain ⟨p2, vs, e, h1, _⟩ := q
  cases e
  rw [h1]; simp
/-- an own dict is changed -/
theorem St.mutateD {i : Nat} {xs ys : List (Key × D)} {p : Addr} {ws : List (Key × V)} (s : St E δ σ G H) (h : δ[i]? = some (.od xs)) (hp : σ[i]? = some (some (.ref p))) (r : RpK G ys ws) :
    St E (δ.set i (.od ys)) σ G (upd H p (.dK ws)) := by
  refine s.change (.od xs) h hp (fun F q => ?_) fun F q => ⟨p, ws, rfl, upd_same, r⟩
  obtain ⟨p2, vs, e, h1, _⟩ := q
  cases e
  rw [h1]; simp
/-- one object -/
def sing (p : Addr) (o : HO) : Hp := fun a => if a = p then some o else none
theorem sing_self {p : Addr} {o : HO} : sing p o p = some o := if_pos rfl
theorem sing_ne {p a : Addr} {o : HO} (h : sing p o a ≠ none) : a = p := by
  by_cases e : a = p
  · exact e
  · exact absurd (if_neg e) h
theorem sing_in {p : Addr} {o : HO} (h : H p = some o) : Same (sing p o) H := fun a u e => by
  have q : a = p := sing_ne (by rw [e]; simp)
  subst q
  rw [sing_self] at e; cases e; exact h
/-- a new list becomes a slot's own -/
theorem St.setOw (s : St E δ σ G H) (r : Gr G H G2 H2) (i : Nat) {xs : List D} {p : Addr} {vs : List V} (hp : H p = none) (gp : G2 p = none) (h2 : H2 p = some (.lst vs)) (ra : RpA G2 xs vs) :
    St E (δ.set i (.ow xs)) (σ.set i (some (.ref p))) G2 H2 :=
  s.put r i _ _ (sing p (.lst vs)) (sing_in h2) (fun a h => by rw [sing_ne h]; exact ⟨hp, gp⟩) ⟨p, vs, rfl, sing_self, ra⟩
theorem St.setOd (s : St E δ σ G H) (r : Gr G H G2 H2) (i : Nat) {xs : List (Key × D)} {p : Addr} {vs : List (Key × V)} (hp : H p = none) (gp : G2 p = none) (h2 : H2 p = some (.dK vs)) (ra : RpK G2 xs vs) :
    St E (δ.set i (.od xs)) (σ.set i (some (.ref p))) G2 H2 :=
  s.put r i _ _ (sing p (.dK vs)) (sing_in h2) (fun a h => by rw [sing_ne h]; exact ⟨hp, gp⟩) ⟨p, vs, rfl, sing_self, ra⟩
end
end PL

/-! PRules: the judgements over pure data, and a rule for each construct. -/
namespace PL
open PySem L2

/-! ### judgements -/
def Ev (E : Ent) (te : TE) (δ : List Sl) (d : D) : Prop := ∀ σ G H Q, St E δ σ G H → (∀ v G2 H2, Gr G H G2 H2 → Rp G2 d v → Q v H2) → te σ H Q
/-- a new list -/
def EvF (E : Ent) (te : TE) (δ : List Sl) (ds : List D) : Prop := ∀ σ G H (Q : VK), St E δ σ G H → (∀ p vs G2 H2, Gr G H G2 H2 → H p = none → G2 p = none → H2 p = some (.lst vs) → RpA G2 ds vs → Q (.ref p) H2) → te σ H Q
/-- an expression that changes own lists -/
def EvM (E : Ent) (te : TE) (δ δ' : List Sl) (d : D) : Prop := ∀ σ G H Q, St E δ σ G H → (∀ v G2 H2, Same G G2 → St E δ' σ G2 H2 → Rp G2 d v → Q v H2) → te σ H Q
def Et (E : Ent) (tt : TT) (δ : List Sl) (b : Bool) : Prop := ∀ σ G H (Q : Bool → Hp → Prop), St E δ σ G H → (∀ G2 H2, Gr G H G2 H2 → Q b H2) → tt σ H Q
/-- what a caller hands on -/
def ArgR (K : PySem.W.Frag) (G H : Hp) : Sl → V → Prop
  | .d x, v => Rp G x v
  | .v x, v => v = x
  | .s ns, v => ∃ a, v = .ref a ∧ SqL K H a (ns.map V.int)
  | _, _ => False
def ArgsR (K : PySem.W.Frag) (G H : Hp) : List Sl → List V → Prop
  | [], vs => vs = []
  | a :: as, vs => ∃ v r, vs = v :: r ∧ ArgR K G H a v ∧ ArgsR K G H as r
def Ea (E : Ent) (ta : TA) (δ : List Sl) (as : List Sl) : Prop := ∀ σ G H (Q : List V → Hp → Prop), St E δ σ G H → (∀ us G2 H2, Gr G H G2 H2 → ArgsR E.K G2 H2 as us → Q us H2) → ta σ H Q
/-- .. of data alone -/
def Ed (E : Ent) (ta : TA) (δ : List Sl) (ds : List D) : Prop := ∀ σ G H (Q : List V → Hp → Prop), St E δ σ G H → (∀ us G2 H2, Gr G H G2 H2 → RpA G2 ds us → Q us H2) → ta σ H Q
def OpD (E : Ent) (r : R2) (d1 d2 d : D) : Prop := ∀ G H x y (Q : VK), Same G H → Same E.H H → Rp G d1 x → Rp G d2 y → (∀ v G2 H2, Gr G H G2 H2 → Rp G2 d v → Q v H2) → r x y H Q
/-- a call on data -/
def CaD (E : Ent) (r : List V → Hp → VK → Prop) (ds : List D) (d : D) : Prop := ∀ G H vs (Q : VK), Same G H → Same E.H H → RpA G ds vs → (∀ v G2 H2, Gr G H G2 H2 → Rp G2 d v → Q v H2) → r vs H Q
def CaF (E : Ent) (r : List V → Hp → VK → Prop) (ds : List D) (es : List D) : Prop := ∀ G H vs (Q : VK), Same G H → Same E.H H → RpA G ds vs → (∀ p us G2 H2, Gr G H G2 H2 → H p = none → G2 p = none → H2 p = some (.lst us) → RpA G2 es us → Q (.ref p) H2) → r vs H Q

section
variable {E : Ent} {δ δ' : List Sl} {ta tb te tc : TE} {tt tu : TT} {d d1 d2 : D} {r : R2}

theorem sameE {σ : L2.St} {G H G2 H2 : Hp} (s : St E δ σ G H) (g : Gr G H G2 H2) : Same E.H H2 := s.h.trans g.h
theorem Ev.m (h : Ev E te δ d) : EvM E te δ δ d := fun σ G H Q s k => h σ G H Q s fun v G2 H2 g r => k v G2 H2 g.g (s.grow g) r
theorem EvF.ev {ds : List D} (h : EvF E te δ ds) : Ev E te δ (.list ds) := fun σ G H Q s k => h σ G H Q s fun p vs G2 H2 g hp gp h2 r => by
  have sg : Same G2 (upd G2 p (.lst vs)) := same_new gp
  refine k (.ref p) (upd G2 p (.lst vs)) H2 ⟨g.g.trans sg, g.h, fun a ha ga => ?_, fun a u e => ?_⟩ ⟨p, vs, rfl, upd_same, RpA.mono sg _ _ r⟩
  · have ne : a ≠ p := fun z => ha (by rw [z]; exact hp)
    rw [upd_ne ne]; exact g.n a ha ga
  · by_cases ne : a = p
    · subst ne; rw [upd_same] at e; cases e; exact h2
    · rw [upd_ne ne] at e; exact g.i a u e
theorem Ev.is (h : Ev E te δ d1) (e : d1 = d) : Ev E te δ d := e ▸ h
theorem Et.is {b c : Bool} (h : Et E tt δ b) (e : b = c) : Et E tt δ c := e ▸ h
/-- reading an own list where what comes of it is no reference -/
def scalD : D → Bool
  | .none => true
  | .bool _ => true
  | .int _ => true
  | .str _ => true
  | _ => false
theorem scal_rp {G G' : Hp} {v : V} : ∀ {d : D}, scalD d = true → Rp G d v → Rp G' d v
  | .none, _, h => h
  | .bool _, _, h => h
  | .int _, _, h => h
  | .str _, _, h => h
  | .list _, h, _ => by cases h
  | .tuple _, h, _ => by cases h
  | .dict _, h, _ => by cases h
theorem scalA_rp {G G' : Hp} : ∀ {ds : List D} {vs : List V}, ds.all scalD = true → RpA G ds vs → RpA G' ds vs
  | [], _, _, h => h
  | d :: ds, _, a, ⟨v, r, h1, h2, h3⟩ => by
    rw [List.all_cons, Bool.and_eq_true] at a
    exact ⟨v, r, h1, scal_rp a.1 h2, scalA_rp a.2 h3⟩
theorem Ev.lend {i : Nat} {xs : List D} (o : δ[i]? = some (.ow xs)) (h : Ev E te (δ.set i (.d (.list xs))) d) (hs : scalD d = true) : Ev E te δ d := fun σ G H Q s k => by
  obtain ⟨p, vs, h1, h2, h3, h4, h5, s'⟩ := s.share o
  exact h σ _ H Q s' fun v G2 H2 g r => k v G H2 (Gr.side s.i g.h) (scal_rp hs r)
theorem Et.lend {b : Bool} {i : Nat} {xs : List D} (o : δ[i]? = some (.ow xs)) (h : Et E tt (δ.set i (.d (.list xs))) b) : Et E tt δ b := fun σ G H Q s k => by
  obtain ⟨p, vs, h1, h2, h3, h4, h5, s'⟩ := s.share o
  exact h σ _ H Q s' fun G2 H2 g => k G H2 (Gr.side s.i g.h)
theorem EvF.lend {i : Nat} {xs ds : List D} (o : δ[i]? = some (.ow xs)) (h : EvF E te (δ.set i (.d (.list xs))) ds) (hs : ds.all scalD = true) : EvF E te δ ds := fun σ G H Q s k => by
  obtain ⟨p, vs, h1, h2, h3, h4, h5, s'⟩ := s.share o
  exact h σ _ H Q s' fun q us G2 H2 g hq gq hq2 r => k q us G H2 (Gr.side s.i g.h) hq (s.i.free hq) hq2 (scalA_rp hs r)

/-! ### names, constants -/
theorem ev_var {i : Nat} (h : δ[i]? = some (.d d)) : Ev E (tVar i) δ d := fun σ G H Q s k => by
  obtain ⟨v, ho, r⟩ := s.atD h
  exact ⟨v, ho, k v G H (Gr.refl s.i) r⟩
theorem ev_int {i : Int} : Ev E (tC (.int i)) δ (.int i) := fun σ G H Q s k => k _ G H (Gr.refl s.i) rfl
theorem ev_str {i : Str} : Ev E (tC (.str i)) δ (.str i) := fun σ G H Q s k => k _ G H (Gr.refl s.i) rfl
theorem ev_bl {i : Bool} : Ev E (tC (.bl i)) δ (.bool i) := fun σ G H Q s k => k _ G H (Gr.refl s.i) rfl
theorem ev_non : Ev E (tC .non) δ .none := fun σ G H Q s k => k _ G H (Gr.refl s.i) rfl

/-! ### operators -/
theorem ev_op (ha : Ev E ta δ d1) (hb : Ev E tb δ d2) (hr : OpD E r d1 d2 d) : Ev E (tOp r ta tb) δ d := fun σ G H Q s k =>
  ha σ G H _ s fun x G1 H1 g1 r1 => hb σ G1 H1 _ (s.grow g1) fun y G2 H2 g2 r2 => hr G2 H2 x y Q g2.i (sameE s (g1.trans g2)) (Rp.mono g2.g _ _ r1) r2 fun v G3 H3 g3 r3 => k v G3 H3 ((g1.trans g2).trans g3) r3
theorem op_val {v : V} (h : ∀ G H x y (Q : VK), Same G H → Same E.H H → Rp G d1 x → Rp G d2 y → Q v H → r x y H Q) (hv : ∀ G, Rp G d v) : OpD E r d1 d2 d := fun G H x y Q i e a b k => h G H x y Q i e a b (k v G H (Gr.refl i) (hv G))
/-- + - < .. of ints -/
theorem op_int {g : Int → Int → Int} {i j : Int} : OpD E (rI0 fun i j => .int (g i j)) (.int i) (.int j) (.int (g i j)) := op_val (fun _ _ _ _ _ _ _ a b q => ⟨i, j, a, b, q⟩) fun _ => rfl
theorem op_bool {g : Int → Int → Bool} {i j : Int} : OpD E (rI0 fun i j => .bl (g i j)) (.int i) (.int j) (.bool (g i j)) := op_val (fun _ _ _ _ _ _ _ a b q => ⟨i, j, a, b, q⟩) fun _ => rfl
theorem op_intC {C : Int → Int → Prop} {g : Int → Int → Int} {i j : Int} (c : C i j) : OpD E (rI C fun i j => .int (g i j)) (.int i) (.int j) (.int (g i j)) := op_val (fun _ _ _ _ _ _ _ a b q => ⟨i, j, a, b, c, q⟩) fun _ => rfl
theorem ev_add {i j : Int} (ha : Ev E ta δ (.int i)) (hb : Ev E tb δ (.int j)) : Ev E (tOp (rI0 fun i j => .int (i + j)) ta tb) δ (.int (i + j)) := ev_op ha hb op_int
theorem ev_sub {i j : Int} (ha : Ev E ta δ (.int i)) (hb : Ev E tb δ (.int j)) : Ev E (tOp (rI0 fun i j => .int (i - j)) ta tb) δ (.int (i - j)) := ev_op ha hb op_int
theorem ev_mul {i j : Int} (ha : Ev E ta δ (.int i)) (hb : Ev E tb δ (.int j)) (c : CMul i j) : Ev E (tOp (rI CMul fun i j => .int (i * j)) ta tb) δ (.int (i * j)) := ev_op ha hb (op_intC c)
theorem ev_mod {i j : Int} (ha : Ev E ta δ (.int i)) (hb : Ev E tb δ (.int j)) (c : 0 < j) : Ev E (tOp (rI (fun _ j => 0 < j) fun i j => .int (i % j)) ta tb) δ (.int (i % j)) := ev_op ha hb (op_intC c)
theorem ev_fdiv {i j : Int} (ha : Ev E ta δ (.int i)) (hb : Ev E tb δ (.int j)) (c : CDiv i j) : Ev E (tOp (rI CDiv fun i j => .int (i / j)) ta tb) δ (.int (i / j)) := ev_op ha hb (op_intC c)
theorem ev_lt {i j : Int} (ha : Ev E ta δ (.int i)) (hb : Ev E tb δ (.int j)) : Ev E (tOp (rI0 fun i j => .bl (decide (i < j))) ta tb) δ (.bool (decide (i < j))) := ev_op ha hb op_bool
theorem ev_le {i j : Int} (ha : Ev E ta δ (.int i)) (hb : Ev E tb δ (.int j)) : Ev E (tOp (rI0 fun i j => .bl (decide (i ≤ j))) ta tb) δ (.bool (decide (i ≤ j))) := ev_op ha hb op_bool
theorem ev_gt {i j : Int} (ha : Ev E ta δ (.int i)) (hb : Ev E tb δ (.int j)) : Ev E (tOp (rI0 fun i j => .bl (decide (j < i))) ta tb) δ (.bool (decide (j < i))) := ev_op ha hb op_bool
theorem ev_ge {i j : Int} (ha : Ev E ta δ (.int i)) (hb : Ev E tb δ (.int j)) : Ev E (tOp (rI0 fun i j => .bl (decide (j ≤ i))) ta tb) δ (.bool (decide (j ≤ i))) := ev_op ha hb op_bool
/-- == of ints -/
theorem ev_eqI {i j : Int} (ha : Ev E ta δ (.int i)) (hb : Ev E tb δ (.int j)) : Ev E (tOp rEq ta tb) δ (.bool (decide (i = j))) :=
  ev_op ha hb (op_val (v := .bl (decide (i = j))) (fun _ _ x y Q _ _ a b q => by
    have a : x = .int i := a
    have b : y = .int j := b
    subst a b
    refine ⟨rfl, ?_⟩
    have e : decide (V.int i = V.int j) = decide (i = j) := by
      by_cases h : i = j
      · subst h; simp
      · rw [decide_eq_false h, decide_eq_false (fun z => h (V.int.inj z))]
    rw [e]; exact q) fun _ => rfl)
theorem ev_neI {i j : Int} (ha : Ev E ta δ (.int i)) (hb : Ev E tb δ (.int j)) : Ev E (tOp rNe ta tb) δ (.bool (!decide (i = j))) :=
  ev_op ha hb (op_val (v := .bl (!decide (i = j))) (fun _ _ x y Q _ _ a b q => by
    have a : x = .int i := a
    have b : y = .int j := b
    subst a b
    refine ⟨rfl, ?_⟩
    have e : decide (V.int i = V.int j) = decide (i = j) := by
      by_cases h : i = j
      · subst h; simp
      · rw [decide_eq_false h, decide_eq_false (fun z => h (V.int.inj z))]
    rw [e]; exact q) fun _ => rfl)
theorem ev_eqS {i j : Str} (ha : Ev E ta δ (.str i)) (hb : Ev E tb δ (.str j)) : Ev E (tOp rEq ta tb) δ (.bool (decide (i = j))) :=
  ev_op ha hb (op_val (v := .bl (decide (i = j))) (fun _ _ x y Q _ _ a b q => by
    have a : x = .str i := a
    have b : y = .str j := b
    subst a b
    refine ⟨rfl, ?_⟩
    have e : decide (V.str i = V.str j) = decide (i = j) := by
      by_cases h : i = j
      · subst h; simp
      · rw [decide_eq_false h, decide_eq_false (fun z => h (V.str.inj z))]
    rw [e]; exact q) fun _ => rfl)
theorem ev_neS {i j : Str} (ha : Ev E ta δ (.str i)) (hb : Ev E tb δ (.str j)) : Ev E (tOp rNe ta tb) δ (.bool (!decide (i = j))) :=
  ev_op ha hb (op_val (v := .bl (!decide (i = j))) (fun _ _ x y Q _ _ a b q => by
    have a : x = .str i := a
    have b : y = .str j := b
    subst a b
    refine ⟨rfl, ?_⟩
    have e : decide (V.str i = V.str j) = decide (i = j) := by
      by_cases h : i = j
      · subst h; simp
      · rw [decide_eq_false h, decide_eq_false (fun z => h (V.str.inj z))]
    rw [e]; exact q) fun _ => rfl)

/-! ### tests, and, or, not -/
theorem et_test {b : Bool} (h : Ev E te δ (.bool b)) : Et E (tTest te) δ b := fun σ G H Q s k => h σ G H _ s fun v G2 H2 g r => ⟨b, r, k G2 H2 g⟩
theorem et_B {b : Bool} (h : Ev E te δ (.bool b)) : Et E (tB te) δ b := fun σ G H Q s k => h σ G H _ s fun v G2 H2 g r => ⟨b, r, k G2 H2 g⟩
theorem et_and {a b : Bool} (h1 : Et E tt δ a) (h2 : a = true → Et E tu δ b) : Et E (tAnd tt tu) δ (a && b) := fun σ G H Q s k => h1 σ G H _ s fun G2 H2 g => by
  cases a with
  | true => rw [if_pos rfl]; exact h2 rfl σ G2 H2 Q (s.grow g) fun G3 H3 g3 => k G3 H3 (g.trans g3)
  | false => rw [if_neg Bool.false_ne_true]; exact k G2 H2 g
theorem et_or {a b : Bool} (h1 : Et E tt δ a) (h2 : a = false → Et E tu δ b) : Et E (tOr tt tu) δ (a || b) := fun σ G H Q s k => h1 σ G H _ s fun G2 H2 g => by
  cases a with
  | true => rw [if_pos rfl]; exact k G2 H2 g
  | false => rw [if_neg Bool.false_ne_true]; exact h2 rfl σ G2 H2 Q (s.grow g) fun G3 H3 g3 => k G3 H3 (g.trans g3)
theorem et_not {a : Bool} (h1 : Et E tt δ a) : Et E (tNot tt) δ (!a) := fun σ G H Q s k => h1 σ G H _ s fun G2 H2 g => k G2 H2 g
theorem ev_andV {a b : Bool} (h1 : Ev E ta δ (.bool a)) (h2 : a = true → Ev E tb δ (.bool b)) : Ev E (tAndV ta tb) δ (.bool (a && b)) := fun σ G H Q s k => h1 σ G H _ s fun v G2 H2 g r => by
  refine ⟨a, r, ?_⟩
  cases a with
  | true => rw [if_pos rfl]; exact h2 rfl σ G2 H2 Q (s.grow g) fun v G3 H3 g3 r3 => k v G3 H3 (g.trans g3) r3
  | false => rw [if_neg Bool.false_ne_true]; exact k _ G2 H2 g rfl
theorem ev_orV {a b : Bool} (h1 : Ev E ta δ (.bool a)) (h2 : a = false → Ev E tb δ (.bool b)) : Ev E (tOrV ta tb) δ (.bool (a || b)) := fun σ G H Q s k => h1 σ G H _ s fun v G2 H2 g r => by
  refine ⟨a, r, ?_⟩
  cases a with
  | true => rw [if_pos rfl]; exact k _ G2 H2 g rfl
  | false => rw [if_neg Bool.false_ne_true]; exact h2 rfl σ G2 H2 Q (s.grow g) fun v G3 H3 g3 r3 => k v G3 H3 (g.trans g3) r3
theorem ev_notV {a : Bool} (h1 : Ev E ta δ (.bool a)) : Ev E (tNotV ta) δ (.bool (!a)) := fun σ G H Q s k => h1 σ G H _ s fun v G2 H2 g r => ⟨a, r, k _ G2 H2 g rfl⟩
theorem ev_if {b : Bool} (h : Et E tt δ b) (h1 : b = true → Ev E ta δ d) (h2 : b = false → Ev E tb δ d) : Ev E (tIf tt ta tb) δ d := fun σ G H Q s k => h σ G H _ s fun G2 H2 g => by
  cases b with
  | true => rw [if_pos rfl]; exact h1 rfl σ G2 H2 Q (s.grow g) fun v G3 H3 g3 r3 => k v G3 H3 (g.trans g3) r3
  | false => rw [if_neg Bool.false_ne_true]; exact h2 rfl σ G2 H2 Q (s.grow g) fun v G3 H3 g3 r3 => k v G3 H3 (g.trans g3) r3
/-- a < b < c -/
theorem ev_chain {r r' : R2} {a b : Bool} {dx dy dz : D} (ha : Ev E ta δ dx) (hb : Ev E tb δ dy) (hr : OpD E r dx dy (.bool a)) (hc : a = true → Ev E tc δ dz) (hr' : a = true → OpD E r' dy dz (.bool b)) : Ev E (tChain r r' ta tb tc) δ (.bool (a && b)) := fun σ G H Q s k =>
  ha σ G H _ s fun x G1 H1 g1 r1 => hb σ G1 H1 _ (s.grow g1) fun y G2 H2 g2 r2 => hr G2 H2 x y _ g2.i (sameE s (g1.trans g2)) (Rp.mono g2.g _ _ r1) r2 fun v G3 H3 g3 r3 => by
    refine ⟨a, r3, ?_⟩
    have g := (g1.trans g2).trans g3
    cases a with
    | true =>
      rw [if_pos rfl]
      exact hc rfl σ G3 H3 _ (s.grow g) fun z G4 H4 g4 r4 => hr' rfl G4 H4 y z Q g4.i (sameE s (g.trans g4)) (Rp.mono (g3.g.trans g4.g) _ _ r2) r4 fun v G5 H5 g5 r5 => k v G5 H5 ((g.trans g4).trans g5) r5
    | false => rw [if_neg Bool.false_ne_true]; exact k _ G3 H3 g rfl

/-! ### arguments, displays -/
theorem ed_nil : Ed E tNil δ [] := fun σ G H Q s k => k [] G H (Gr.refl s.i) rfl
theorem ed_cons {tr : TA} {ds : List D} (h : Ev E ta δ d) (hr : Ed E tr δ ds) : Ed E (tCons ta tr) δ (d :: ds) := fun σ G H Q s k =>
  h σ G H _ s fun v G1 H1 g1 r1 => hr σ G1 H1 _ (s.grow g1) fun us G2 H2 g2 r2 => k (v :: us) G2 H2 (g1.trans g2) ⟨v, us, rfl, Rp.mono g2.g _ _ r1, r2⟩
theorem ArgR.grow {K : PySem.W.Frag} {G H G2 H2 : Hp} (g : Gr G H G2 H2) : ∀ {a : Sl} {v : V}, ArgR K G H a v → ArgR K G2 H2 a v
  | .d _, _, h => Rp.mono g.g _ _ h
  | .v _, _, h => h
  | .s _, _, ⟨a, h1, h2⟩ => ⟨a, h1, Same.seq g.h h2⟩
  | .no, _, h => h.elim
  | .ow _, _, h => h.elim
theorem ea_nil : Ea E tNil δ [] := fun σ G H Q s k => k [] G H (Gr.refl s.i) rfl
theorem ea_d {tr : TA} {as : List Sl} (h : Ev E ta δ d) (hr : Ea E tr δ as) : Ea E (tCons ta tr) δ (.d d :: as) := fun σ G H Q s k =>
  h σ G H _ s fun v G1 H1 g1 r1 => hr σ G1 H1 _ (s.grow g1) fun us G2 H2 g2 r2 => k (v :: us) G2 H2 (g1.trans g2) ⟨v, us, rfl, Rp.mono g2.g _ _ r1, r2⟩
theorem ea_s {tr : TA} {as : List Sl} {i : Nat} {ns : List Int} (h : δ[i]? = some (.s ns)) (hr : Ea E tr δ as) : Ea E (tCons (tVar i) tr) δ (.s ns :: as) := fun σ G H Q s k => by
  obtain ⟨a, ho, q⟩ := s.atS h
  refine ⟨.ref a, ho, hr σ G H _ s fun us G2 H2 g2 r2 => k (.ref a :: us) G2 H2 g2 ⟨_, us, rfl, ⟨a, rfl, ?_⟩, r2⟩⟩
  exact Same.seq (sameE s g2) q
theorem ev_tup {t : TA} {ds : List D} (h : Ed E t δ ds) (hl : ds.length ≤ 100000) : Ev E (tTup t) δ (.tuple ds) := fun σ G H Q s k => h σ G H _ s fun us G1 H1 g1 r1 => by
  refine ⟨by rw [r1.len]; exact Nat.le_trans hl (by decide), fun p hp => ?_⟩
  have gp : G1 p = none := g1.i.free hp
  exact k (.ref p) _ _ (g1.trans (Gr.new g1.i hp)) ⟨p, us, rfl, upd_same, RpA.mono (same_new gp) _ _ r1⟩
theorem evF_lst {t : TA} {ds : List D} (h : Ed E t δ ds) (hl : ds.length ≤ 100000) : EvF E (tLst t) δ ds := fun σ G H Q s k => h σ G H _ s fun us G1 H1 g1 r1 => by
  refine ⟨by rw [r1.len]; exact Nat.le_trans hl (by decide), fun p hp => ?_⟩
  exact k p us G1 _ (g1.trans (Gr.side g1.i (same_new hp))) (g1.h.free hp) (g1.i.free hp) upd_same r1
theorem ev_lst {t : TA} {ds : List D} (h : Ed E t δ ds) (hl : ds.length ≤ 100000) : Ev E (tLst t) δ (.list ds) := (evF_lst h hl).ev
theorem ev_cb {rc : List V → Hp → VK → Prop} {t : TA} {ds : List D} (h : Ed E t δ ds) (hr : CaD E rc ds d) : Ev E (tCB rc t) δ d := fun σ G H Q s k =>
  h σ G H _ s fun us G1 H1 g1 r1 => hr G1 H1 us Q g1.i (sameE s g1) r1 fun v G2 H2 g2 r2 => k v G2 H2 (g1.trans g2) r2
theorem evF_cb {rc : List V → Hp → VK → Prop} {t : TA} {ds es : List D} (h : Ed E t δ ds) (hr : CaF E rc ds es) : EvF E (tCB rc t) δ es := fun σ G H Q s k =>
  h σ G H _ s fun us G1 H1 g1 r1 => hr G1 H1 us Q g1.i (sameE s g1) r1 fun p vs G2 H2 g2 hp gp h2 r2 => k p vs G2 H2 (g1.trans g2) (g1.h.free hp) gp h2 r2
/-- a list, a tuple of data is one that may be read -/
theorem sqL_of {K : PySem.W.Frag} {G H : Hp} {a : Addr} {vs : List V} (i : Same G H) (h : G a = some (.lst vs)) : SqL K H a vs := SqL.of (i _ _ h)
theorem sqT_of {K : PySem.W.Frag} {G H : Hp} {a : Addr} {vs : List V} (i : Same G H) (h : G a = some (.tup vs)) : SqT K H a vs := SqT.of (i _ _ h)

/-! ### calls -/
/-- a def on data: what it is handed, what it hands back -/
def spR (K : PySem.W.Frag) (R : List Sl → D → Prop) : Sp := fun vs H Q _ => ∃ G as d, Same G H ∧ ArgsR K G H as vs ∧ R as d ∧ ∀ v G2 H2, Gr G H G2 H2 → Rp G2 d v → Q v H2
/-- .. that hands back a new list -/
def spF (K : PySem.W.Frag) (R : List Sl → List D → Prop) : Sp := fun vs H Q _ => ∃ G as ds, Same G H ∧ ArgsR K G H as vs ∧ R as ds ∧ ∀ p us G2 H2, Gr G H G2 H2 → H p = none → G2 p = none → H2 p = some (.lst us) → RpA G2 ds us → Q (.ref p) H2
theorem ev_call {R : List Sl → D → Prop} {t : TA} {as : List Sl} {XE : XK} (h : Ea E t δ as) (hR : R as d) : Ev E (tCall (spR E.K R) [] XE t) δ d := fun σ G H Q s k =>
  h σ G H _ s fun us G1 H1 g1 r1 => by
    rw [List.append_nil]
    exact ⟨G1, as, d, g1.i, r1, hR, fun v G2 H2 g2 r2 => k v G2 H2 (g1.trans g2) r2⟩
theorem evF_call {R : List Sl → List D → Prop} {t : TA} {as : List Sl} {ds : List D} {XE : XK} (h : Ea E t δ as) (hR : R as ds) : EvF E (tCall (spF E.K R) [] XE t) δ ds := fun σ G H Q s k =>
  h σ G H _ s fun us G1 H1 g1 r1 => by
    rw [List.append_nil]
    exact ⟨G1, as, ds, g1.i, r1, hR, fun p vs G2 H2 g2 hp gp h2 r2 => k p vs G2 H2 (g1.trans g2) (g1.h.free hp) gp h2 r2⟩
end
end PL

/-! PStm: statements, loops, comprehensions over pure data. -/
namespace PL
open PySem L2

/-- how a statement ends: on with slots | a datum handed back | a new list handed back | a new dict handed back | a new structure handed back | break | continue -/
inductive Out where
  | nx (δ : List Sl) | rt (d : D) | rl (ds : List D) | rk (kvs : List (Key × D)) | rf (d : D) | bk (δ : List Sl) | ct (δ : List Sl)
def Post (E : Ent) (G : Hp) (X : Ends) : Out → Prop
  | .nx δ => ∀ σ G' H', Same G G' → St E δ σ G' H' → X.nx σ H'
  | .rt d => ∀ v G' H', Gr E.G E.H G' H' → Rp G' d v → X.rt v H'
  | .rl ds => ∀ p vs G' H', Gr E.G E.H G' H' → E.H p = none → G' p = none → H' p = some (.lst vs) → RpA G' ds vs → X.rt (.ref p) H'
  | .rk kvs => ∀ p ks G' H', Gr E.G E.H G' H' → E.H p = none → G' p = none → H' p = some (.dK ks) → RpK G' kvs ks → X.rt (.ref p) H'
  | .rf d => ∀ v F H', Same E.H H' → Same F H' → (∀ a, F a ≠ none → E.H a = none) → Rp F d v → X.rt v H'
  | .bk δ => ∀ σ G' H', Same G G' → St E δ σ G' H' → X.bk σ H'
  | .ct δ => ∀ σ G' H', Same G G' → St E δ σ G' H' → X.ct σ H'
def Xs (E : Ent) (ts : TS) (δ : List Sl) (Φ : Out → Prop) : Prop := ∀ σ G H X, St E δ σ G H → (∀ o, Φ o → Post E G X o) → ts X σ H
theorem St.gr {E : Ent} {δ : List Sl} {σ : L2.St} {G H : Hp} (s : St E δ σ G H) : Gr E.G E.H G H := ⟨s.g, s.h, s.n, s.i⟩
theorem Post.mono {E : Ent} {G G' : Hp} {X : Ends} (e : Same G G') : ∀ {o : Out}, Post E G X o → Post E G' X o
  | .nx _, h => fun σ G2 H2 e2 => h σ G2 H2 (e.trans e2)
  | .rt _, h => h
  | .rl _, h => h
  | .rk _, h => h
  | .rf _, h => h
  | .bk _, h => fun σ G2 H2 e2 => h σ G2 H2 (e.trans e2)
  | .ct _, h => fun σ G2 H2 e2 => h σ G2 H2 (e.trans e2)

section
variable {E : Ent} {δ δ' : List Sl} {ta tb te tc : TE} {tt tu : TT} {d d1 d2 : D} {t u : TS} {Φ Ψ : Out → Prop}
theorem Xs.imp (h : Xs E t δ Φ) (k : ∀ o, Φ o → Ψ o) : Xs E t δ Ψ := fun σ G H X s p => h σ G H X s fun o q => p o (k o q)
/-- what is wanted of the first of two -/
def Then (E : Ent) (u : TS) (Φ : Out → Prop) : Out → Prop
  | .nx δ => Xs E u δ Φ
  | o => Φ o
theorem xs_seq (h : Xs E t δ (Then E u Φ)) : Xs E (tSeq t u) δ Φ := fun σ G H X s p => h σ G H { X with nx := u X } s fun o q => by
  cases o with
  | nx δ1 => exact fun σ1 G1 H1 e1 s1 => q σ1 G1 H1 X s1 fun o' q' => (p o' q').mono e1
  | rt d => exact p _ q
  | rl d => exact p _ q
  | rk d => exact p _ q
  | rf d => exact p _ q
  | bk d => exact p _ q
  | ct d => exact p _ q
theorem xs_next (h : Φ (.nx δ)) : Xs E tNext δ Φ := fun σ G H X s p => p _ h σ G H (Same.refl G) s
theorem xs_brk (h : Φ (.bk δ)) : Xs E tBreak δ Φ := fun σ G H X s p => p _ h σ G H (Same.refl G) s
theorem xs_cont (h : Φ (.ct δ)) : Xs E tCont δ Φ := fun σ G H X s p => p _ h σ G H (Same.refl G) s
theorem xs_forget (i : Nat) (h : Xs E t (δ.set i .no) Φ) : Xs E t δ Φ := fun σ G H X s p => h σ G H X (s.forget i) p
theorem xs_share {i : Nat} {xs : List D} (o : δ[i]? = some (.ow xs)) (h : Xs E t (δ.set i (.d (.list xs))) Φ) : Xs E t δ Φ := fun σ G H X s p => by
  obtain ⟨q, vs, h1, h2, h3, h4, h5, s'⟩ := s.share o
  exact h σ _ H X s' fun o q => (p o q).mono (same_new h4)
theorem xs_asg {i : Nat} (h : Ev E te δ d) (k : Φ (.nx (δ.set i (.d d)))) : Xs E (tAsg te (gName i)) δ Φ := fun σ G H X s p => h σ G H _ s fun v G1 H1 g r => p _ k _ G1 H1 g.g ((s.grow g).setD i r)
/-- x = a new list, its own from here on -/
theorem xs_asgF {i : Nat} {ds : List D} (h : EvF E te δ ds) (k : Φ (.nx (δ.set i (.ow ds)))) : Xs E (tAsg te (gName i)) δ Φ := fun σ G H X s p => h σ G H _ s fun q vs G1 H1 g hp gp h2 r => by
  exact p _ k _ G1 H1 g.g (s.setOw g i hp gp h2 r)
theorem xs_asgM {i : Nat} (h : EvM E te δ δ' d) (k : Φ (.nx (δ'.set i (.d d)))) : Xs E (tAsg te (gName i)) δ Φ := fun σ G H X s p => h σ G H _ s fun v G1 H1 g s1 r => p _ k _ G1 H1 g (s1.setD i r)
theorem xs_drop (h : EvM E te δ δ' d) (k : Φ (.nx δ')) : Xs E (tDrop te) δ Φ := fun σ G H X s p => h σ G H _ s fun v G1 H1 g s1 r => p _ k σ G1 H1 g s1
theorem xs_ret (h : Ev E te δ d) (k : Φ (.rt d)) : Xs E (tRet te) δ Φ := fun σ G H X s p => h σ G H _ s fun v G1 H1 g r => p _ k v G1 H1 (s.gr.trans g) r
theorem xs_retF {ds : List D} (h : EvF E te δ ds) (k : Φ (.rl ds)) : Xs E (tRet te) δ Φ := fun σ G H X s p => h σ G H _ s fun q vs G1 H1 g hp gp h2 r => p _ k q vs G1 H1 (s.gr.trans g) (s.h.free hp) gp h2 r
/-- return x, x an own list -/
theorem xs_retO {i : Nat} {xs : List D} (o : δ[i]? = some (.ow xs)) (k : Φ (.rl xs)) : Xs E (tRet (tVar i)) δ Φ := fun σ G H X s p => by
  obtain ⟨q, vs, ho, h2, h3, h4, h5⟩ := s.atOw o
  exact ⟨.ref q, ho, p _ k q vs G H s.gr h5 h4 h2 h3⟩
/-- return x, x an own dict -/
theorem xs_retOd {i : Nat} {xs : List (Key × D)} (o : δ[i]? = some (.od xs)) (k : Φ (.rk xs)) : Xs E (tRet (tVar i)) δ Φ := fun σ G H X s p => by
  obtain ⟨q, vs, ho, h2, h3, h4, h5⟩ := s.atOd o
  exact ⟨.ref q, ho, p _ k q vs G H s.gr h5 h4 h2 h3⟩
theorem xs_retN (k : Φ (.rt .none)) : Xs E tRetN δ Φ := fun σ G H X s p => p _ k _ G H s.gr rfl
theorem xs_if {b : Bool} (h : Et E tt δ b) (h1 : b = true → Xs E t δ Φ) (h2 : b = false → Xs E u δ Φ) : Xs E (tIfS tt t u) δ Φ := fun σ G H X s p => h σ G H _ s fun G1 H1 g => by
  cases b with
  | true => rw [if_pos rfl]; exact h1 rfl σ G1 H1 X (s.grow g) fun o q => (p o q).mono g.g
  | false => rw [if_neg Bool.false_ne_true]; exact h2 rfl σ G1 H1 X (s.grow g) fun o q => (p o q).mono g.g
theorem xs_never (h : False) : Xs E t δ Φ := h.elim

/-! in a row -/
theorem q_asg {i : Nat} (h : Ev E te δ d) (k : Xs E u (δ.set i (.d d)) Φ) : Xs E (tSeq (tAsg te (gName i)) u) δ Φ := xs_seq (xs_asg h k)
theorem q_asgF {i : Nat} {ds : List D} (h : EvF E te δ ds) (k : Xs E u (δ.set i (.ow ds)) Φ) : Xs E (tSeq (tAsg te (gName i)) u) δ Φ := xs_seq (xs_asgF h k)
theorem q_asgM {i : Nat} (h : EvM E te δ δ' d) (k : Xs E u (δ'.set i (.d d)) Φ) : Xs E (tSeq (tAsg te (gName i)) u) δ Φ := xs_seq (xs_asgM h k)
theorem q_drop (h : EvM E te δ δ' d) (k : Xs E u δ' Φ) : Xs E (tSeq (tDrop te) u) δ Φ := xs_seq (xs_drop h k)
theorem q_if {b : Bool} (h : Et E tt δ b) {t2 : TS} (h1 : b = true → Xs E t δ (Then E u Φ)) (h2 : b = false → Xs E t2 δ (Then E u Φ)) : Xs E (tSeq (tIfS tt t t2) u) δ Φ := xs_seq (xs_if h h1 h2)
/-- if ..: (no else), then the rest -/
theorem q_when {b : Bool} (h : Et E tt δ b) (h1 : b = true → Xs E t δ (Then E u Φ)) (h2 : b = false → Xs E u δ Φ) : Xs E (tSeq (tIfS tt t tNext) u) δ Φ := xs_seq (xs_if h h1 fun e => xs_next (h2 e))
end

/-! ### targets -/
def Tg (E : Ent) (js : List Nat) (g : TG) (x : D) (δ δ' : List Sl) : Prop := ∀ σ G H (Q : L2.St → Hp → Prop) v, St E δ σ G H → Rp G x v → (∀ σ', St E δ' σ' G H → (∀ vs : List Nat, (∀ j ∈ js, j ∈ vs) → wipe σ' vs = wipe σ vs) → Q σ' H) → g v σ H Q
def TgA (E : Ent) (js : List Nat) (g : TGs) (xs : List D) (δ δ' : List Sl) : Prop := ∀ σ G H (Q : L2.St → Hp → Prop) vs, St E δ σ G H → RpA G xs vs → (∀ σ', St E δ' σ' G H → (∀ vs : List Nat, (∀ j ∈ js, j ∈ vs) → wipe σ' vs = wipe σ vs) → Q σ' H) → g vs σ H Q
theorem wipe_get (σ : L2.St) (i : Nat) : ∀ vs : List Nat, (wipe σ vs)[i]? = if i ∈ vs then (if i < σ.length then some none else none) else σ[i]?
  | [] => by simp [wipe]
  | v :: vs => by
    have ih := wipe_get σ i vs
    unfold wipe
    rw [List.getElem?_set, wipe_length]
    by_cases e : v = i
    · subst e; simp
    · rw [if_neg e, ih]
      have : (i ∈ v :: vs) ↔ i ∈ vs := by simp [Ne.symm e]
      by_cases h : i ∈ vs
      · rw [if_pos h, if_pos (this.mpr h)]
      · rw [if_neg h, if_neg (fun z => h (this.mp z))]
theorem wipe_set {σ : L2.St} {j : Nat} {o : Option V} {vs : List Nat} (h : j ∈ vs) : wipe (σ.set j o) vs = wipe σ vs := by
  apply List.ext_getElem?
  intro i
  rw [wipe_get, wipe_get, List.length_set]
  by_cases hi : i ∈ vs
  · rw [if_pos hi, if_pos hi]
  · rw [if_neg hi, if_neg hi, List.getElem?_set_ne (fun e => hi (by rw [← e]; exact h))]
theorem wipe_wipe (σ : L2.St) (vs : List Nat) : wipe (wipe σ vs) vs = wipe σ vs := by
  apply List.ext_getElem?
  intro i
  rw [wipe_get, wipe_get, wipe_length]
  by_cases hi : i ∈ vs <;> simp [hi]
def wipeS (δ : List Sl) : List Nat → List Sl
  | [] => δ
  | v :: vs => (wipeS δ vs).set v .no
theorem St.wiped {E : Ent} {δ : List Sl} {σ : L2.St} {G H : Hp} (s : St E δ σ G H) : ∀ vs : List Nat, St E (wipeS δ vs) (wipe σ vs) G H
  | [] => s
  | v :: vs => by
    exact (s.wiped vs).putB v .no none trivial
section
variable {E : Ent} {δ δ' δ2 : List Sl} {K : PySem.W.Frag}
theorem tg_name {j : Nat} {x : D} : Tg E [j] (gName j) x δ (δ.set j (.d x)) := fun σ G H Q v s r k => k _ (s.setD j r) fun vs h => wipe_set (h j (by simp))
theorem tga_nil : TgA E [] gNil [] δ δ := fun σ G H Q vs s r k => ⟨r, k σ s fun _ _ => rfl⟩
theorem tga_cons {js ks : List Nat} {g : TG} {gs : TGs} {x : D} {xs : List D} (h : Tg E js g x δ δ2) (hs : TgA E ks gs xs δ2 δ') : TgA E (js ++ ks) (gCons g gs) (x :: xs) δ δ' := fun σ G H Q vs s r k => by
  obtain ⟨v, us, e, r1, r2⟩ := r
  refine ⟨v, us, e, h σ G H _ v s r1 fun σ1 s1 w1 => hs σ1 G H Q us s1 r2 fun σ2 s2 w2 => k σ2 s2 fun vs q => ?_⟩
  rw [w2 vs fun j hj => q j (List.mem_append_right _ hj), w1 vs fun j hj => q j (List.mem_append_left _ hj)]
theorem tg_tup {js : List Nat} {n : Nat} {gs : TGs} {xs : List D} (h : TgA E js gs xs δ δ') (hn : xs.length = n) : Tg E js (gTup K n gs) (.tuple xs) δ δ' := fun σ G H Q v s r k => by
  obtain ⟨a, vs, e, h1, h2⟩ := r
  exact ⟨a, vs, e, sqT_of s.i h1, by rw [h2.len, hn], h σ G H Q vs s h2 k⟩
theorem tg_two {i j n : Nat} {x y : D} (hn : 2 = n := by rfl) : Tg E [i, j] (gTup K n (gCons (gName i) (gCons (gName j) gNil))) (.tuple [x, y]) δ ((δ.set i (.d x)).set j (.d y)) := tg_tup (tga_cons tg_name (tga_cons tg_name tga_nil)) hn
/-- a, b = e -/
theorem xs_asgT {js : List Nat} {te : TE} {g : TG} {x : D} {Φ : Out → Prop} (h : Ev E te δ x) (hg : Tg E js g x δ δ') (k : Φ (.nx δ')) : Xs E (tAsg te g) δ Φ := fun σ G H X s p => h σ G H _ s fun v G1 H1 g1 r => hg σ G1 H1 _ v (s.grow g1) r fun σ' s' _ => p _ k σ' G1 H1 g1.g s'
theorem xs_asgTM {js : List Nat} {te : TE} {g : TG} {x : D} {Φ : Out → Prop} (h : EvM E te δ δ2 x) (hg : Tg E js g x δ2 δ') (k : Φ (.nx δ')) : Xs E (tAsg te g) δ Φ := fun σ G H X s p => h σ G H _ s fun v G1 H1 g1 s1 r => hg σ G1 H1 _ v s1 r fun σ' s' _ => p _ k σ' G1 H1 g1 s'
end

/-! ### what is walked -/
/-- J gives the data xs one by one, while what stands in Gs stands -/
def WalkD (J : It) (Gs : Hp) (xs : List D) : Prop := Walk J xs.length (fun H => Same Gs H) fun i H v H' => ∀ G, Same Gs G → Same G H → ∃ G' x, xs[i]? = some x ∧ Gr G H G' H' ∧ Rp G' x v
/-- .. while what stood in Hs stands (a comprehension) -/
def WalkC (J : It) (Gs Hs : Hp) (xs : List D) : Prop := Walk J xs.length (fun H => Same Hs H) fun i H v H' => ∀ G, Same Gs G → Same G H → ∃ G' x, xs[i]? = some x ∧ Gr G H G' H' ∧ Rp G' x v
theorem WalkD.c {J : It} {Gs Hs : Hp} {xs : List D} (w : WalkD J Gs xs) (i : Same Gs Hs) : WalkC J Gs Hs xs := Walk.mono w (fun _ h => i.trans h) fun _ _ _ _ _ _ y => y
def EvIc (E : Ent) (wi : TI) (δ : List Sl) (xs : List D) : Prop := ∀ σ G H (R : It → Hp → Prop), St E δ σ G H → (∀ J G2 H2, Gr G H G2 H2 → WalkC J G2 H2 xs → R J H2) → wi σ H R
def EvI (E : Ent) (wi : TI) (δ : List Sl) (xs : List D) : Prop := ∀ σ G H (R : It → Hp → Prop), St E δ σ G H → (∀ J G2 H2, Gr G H G2 H2 → WalkD J G2 xs → R J H2) → wi σ H R
theorem EvI.c {E : Ent} {wi : TI} {δ : List Sl} {xs : List D} (h : EvI E wi δ xs) : EvIc E wi δ xs := fun σ G H R s k => h σ G H R s fun J G2 H2 g w => k J G2 H2 g (w.c g.i)
section
variable {E : Ent} {δ δ' : List Sl} {te : TE} {K : PySem.W.Frag} {xs : List D}
theorem walkD_list {G : Hp} {a : Addr} {vs : List V} (h : G a = some (.lst vs)) (r : RpA G xs vs) : WalkD (Itl K a) G xs := by
  have w := (walk_list (K := K) (a := a) (xs := vs)).mono (G' := fun H => Same G H) (Y' := fun i H v H' => ∀ G', Same G G' → Same G' H → ∃ G2 x, xs[i]? = some x ∧ Gr G' H G2 H' ∧ Rp G2 x v) (fun H s => SqL.of (s _ _ h)) fun i H v H' hi s y G' e1 e2 => by
    obtain ⟨e, hv⟩ := y
    subst e
    rw [r.len] at hi
    obtain ⟨v', h1, h2⟩ := r.get (List.getElem?_eq_getElem hi)
    rw [hv] at h1; cases h1
    exact ⟨G', _, List.getElem?_eq_getElem hi, Gr.refl e2, Rp.mono e1 _ _ h2⟩
  rw [r.len] at w
  exact w
theorem ei_list (h : Ev E te δ (.list xs)) : EvI E (iList K te) δ xs := fun σ G H R s k => h σ G H _ s fun v G1 H1 g r => by
  obtain ⟨a, vs, e, h1, h2⟩ := r
  exact ⟨a, e, ⟨vs, sqL_of g.i h1⟩, k _ G1 H1 g (walkD_list h1 h2)⟩
theorem walkD_tup {G : Hp} {a : Addr} {vs : List V} (h : G a = some (.tup vs)) (r : RpA G xs vs) : WalkD (Itt K a) G xs := by
  have w := (walk_tup (K := K) (a := a) (xs := vs)).mono (G' := fun H => Same G H) (Y' := fun i H v H' => ∀ G', Same G G' → Same G' H → ∃ G2 x, xs[i]? = some x ∧ Gr G' H G2 H' ∧ Rp G2 x v) (fun H s => SqT.of (s _ _ h)) fun i H v H' hi s y G' e1 e2 => by
    obtain ⟨e, hv⟩ := y
    subst e
    rw [r.len] at hi
    obtain ⟨v', h1, h2⟩ := r.get (List.getElem?_eq_getElem hi)
    rw [hv] at h1; cases h1
    exact ⟨G', _, List.getElem?_eq_getElem hi, Gr.refl e2, Rp.mono e1 _ _ h2⟩
  rw [r.len] at w
  exact w
theorem ei_tup (h : Ev E te δ (.tuple xs)) : EvI E (iTup K te) δ xs := fun σ G H R s k => h σ G H _ s fun v G1 H1 g r => by
  obtain ⟨a, vs, e, h1, h2⟩ := r
  exact ⟨a, e, ⟨vs, sqT_of g.i h1⟩, k _ G1 H1 g (walkD_tup h1 h2)⟩
/-- the intsD lo, lo + 1, .. -/
def intsD (lo : Int) (n : Nat) : List D := (List.range n).map fun (i : Nat) => .int (lo + (i : Int))
theorem intsD_len (lo : Int) (n : Nat) : (intsD lo n).length = n := by simp [intsD]
theorem intsD_get {lo : Int} {n i : Nat} (h : i < n) : (intsD lo n)[i]? = some (.int (lo + (i : Int))) := by
  unfold intsD
  rw [List.getElem?_map, List.getElem?_range h]
  rfl
theorem walkD_range {G : Hp} {lo : Int} {n : Nat} : WalkD (Itr lo n) G (intsD lo n) := by
  unfold WalkD
  rw [intsD_len]
  exact (walk_range (lo := lo) (n := n)).mono (fun _ _ => trivial) fun i H v H' hi s y G' e1 e2 => by
    obtain ⟨e, hv⟩ := y
    subst e hv
    exact ⟨G', _, intsD_get hi, Gr.refl e2, rfl⟩
theorem ei_range1 {ta : TA} {n : Int} (h : Ed E ta δ [.int n]) (hn : -1000000 ≤ n ∧ n ≤ 1000000) : EvI E (iRng1 ta) δ (intsD 0 n.toNat) := fun σ G H R s k => h σ G H _ s fun us G1 H1 g r => by
  obtain ⟨v, us', e1, e2, e3⟩ := r
  have e2 : v = .int n := e2
  have e3 : us' = [] := e3
  subst e1 e2 e3
  exact ⟨n, rfl, by omega, by omega, k _ G1 H1 g walkD_range⟩
theorem ei_range2 {ta : TA} {lo n : Int} (h : Ed E ta δ [.int lo, .int n]) (hn : -1000000 ≤ lo ∧ lo ≤ 1000000 ∧ -1000000 ≤ n ∧ n ≤ 1000000) : EvI E (iRng2 ta) δ (intsD lo (n - lo).toNat) := fun σ G H R s k => h σ G H _ s fun us G1 H1 g r => by
  obtain ⟨v, us', e1, e2, w, us'', e3, e4, e5⟩ := r
  have e2 : v = .int lo := e2
  have e4 : w = .int n := e4
  have e5 : us'' = [] := e5
  subst e1 e2 e3 e4 e5
  exact ⟨lo, n, rfl, ⟨by omega, by omega, by omega, by omega⟩, k _ G1 H1 g walkD_range⟩
/-- enumerate -/
def enumD (xs : List D) : List D := xs.mapIdx fun i x => .tuple [.int (i : Int), x]
theorem walkD_enum {G : Hp} {a : Addr} {vs : List V} (h : G a = some (.lst vs)) (r : RpA G xs vs) : WalkD (Ite K a) G (enumD xs) := by
  have hlen : (enumD xs).length = vs.length := by simp [enumD, r.len]
  unfold WalkD
  rw [hlen]
  refine (walk_enum (K := K) (a := a) (xs := vs)).mono (fun H s => SqL.of (s _ _ h)) fun i H v H' hi s y G' e1 e2 => ?_
  obtain ⟨T, x, z, hv, hT, hH, hx, hz⟩ := y
  subst hv hH
  cases hx
  rw [r.len] at hi
  obtain ⟨v', h1, h2⟩ := r.get (List.getElem?_eq_getElem hi)
  have hz : vs[i]? = some z := hz
  rw [hz] at h1; cases h1
  have gT : G' T = none := e2.free hT
  exact ⟨_, .tuple [.int (i : Int), xs[i]], by simp [enumD, List.getElem?_eq_getElem hi], Gr.new e2 hT, T, _, rfl, upd_same, _, _, rfl, rfl, _, _, rfl, Rp.mono (e1.trans (same_new gT)) _ _ h2, rfl⟩
theorem ei_enum {ta : TA} (h : Ed E ta δ [.list xs]) : EvI E (iEnum K ta) δ (enumD xs) := fun σ G H R s k => h σ G H _ s fun us G1 H1 g r => by
  obtain ⟨v, us', e1, ⟨a, vs, e2, h1, h2⟩, e3⟩ := r
  have e3 : us' = [] := e3
  subst e1 e2 e3
  exact ⟨a, vs, rfl, sqL_of g.i h1, k _ G1 H1 g (walkD_enum h1 h2)⟩
/-- a text's signs -/
def signsD (z : Str) : List D := z.cps.toList.map fun c => .str ⟨#[c]⟩
theorem walkD_str {G : Hp} {z : Str} : WalkD (Its z) G (signsD z) := by
  have hl : (signsD z).length = z.cps.size := by simp [signsD]
  unfold WalkD
  rw [hl]
  exact (walk_str (z := z)).mono (fun _ _ => trivial) fun i H v H' hi s y G' e1 e2 => by
    obtain ⟨e, c, hc, hv⟩ := y
    subst e hv
    exact ⟨G', .str ⟨#[c]⟩, by simp [signsD, hc], Gr.refl e2, rfl⟩
theorem ei_str {z : Str} (h : Ev E te δ (.str z)) : EvI E (iStr te) δ (signsD z) := fun σ G H R s k => h σ G H _ s fun v G1 H1 g r => ⟨z, r, k _ G1 H1 g walkD_str⟩
end

/-! ### for -/
section
variable {E : Ent} {δ δ' : List Sl} {te : TE} {tt : TT} {K : PySem.W.Frag} {xs : List D} {wi : TI} {g : TG} {tb : TS} {Φ : Out → Prop}
/-- what a turn is to end with -/
def TurnO (Inv : List Sl → Prop) (Φ : Out → Prop) : Out → Prop
  | .nx δ => Inv δ
  | .ct δ => Inv δ
  | .bk δ => Φ (.nx δ)
  | .rt d => Φ (.rt d)
  | .rl d => Φ (.rl d)
  | .rk d => Φ (.rk d)
  | .rf d => Φ (.rf d)
theorem xs_for (hi : EvI E wi δ xs) (Inv : Nat → List Sl → Prop) (h0 : Inv 0 δ) (turn : ∀ i x δ', xs[i]? = some x → Inv i δ' → ∃ js δ2, Tg E js g x δ' δ2 ∧ Xs E tb δ2 (TurnO (Inv (i + 1)) Φ)) (done : ∀ δ', Inv xs.length δ' → Φ (.nx δ')) :
    Xs E (tFor wi g tb) δ Φ := fun σ G H X s p => hi σ G H _ s fun J G1 H1 g1 w => by
  refine for_it w (fun i σ' H' => ∃ δ' G', Same G1 G' ∧ Inv i δ' ∧ St E δ' σ' G' H') ⟨δ, G1, Same.refl _, h0, s.grow g1⟩ (fun i σ' H' _ ⟨δ', G', e, _, s'⟩ => e.trans s'.i) (fun i v σ' H' H2 hi' ⟨δ', G', e, inv, s'⟩ y => ?_) (fun σ' H' ⟨δ', G', e, inv, s'⟩ => p _ (done δ' inv) σ' G' H' (g1.g.trans e) s')
  obtain ⟨G2, x, hx, g2, r⟩ := y G' e s'.i
  obtain ⟨js, δ2, tg, body⟩ := turn i x δ' hx inv
  refine tg σ' G2 H2 _ v (s'.grow g2) r fun σ3 s3 _ => body σ3 G2 H2 _ s3 fun o q => ?_
  cases o with
  | nx δ3 => exact fun σ4 G4 H4 e4 s4 => ⟨δ3, G4, (e.trans g2.g).trans e4, q, s4⟩
  | ct δ3 => exact fun σ4 G4 H4 e4 s4 => ⟨δ3, G4, (e.trans g2.g).trans e4, q, s4⟩
  | bk δ3 => exact (p _ q).mono (G := G) (((g1.g.trans e).trans g2.g))
  | rt d => exact p _ q
  | rl d => exact p _ q
  | rk d => exact p _ q
  | rf d => exact p _ q
theorem xs_while (W : Nat → List Sl → Prop) (m : Nat) (h0 : W m δ) (turn : ∀ m δ', W m δ' → ∃ b, Et E tt δ' b ∧ (b = true → Xs E tb δ' (TurnO (fun δ2 => ∃ m', m' < m ∧ W m' δ2) Φ)) ∧ (b = false → Φ (.nx δ'))) : Xs E (tWhile tt tb) δ Φ := fun σ G H X s p => by
  refine ⟨fun m σ' H' => ∃ δ' G', Same G G' ∧ W m δ' ∧ St E δ' σ' G' H', ⟨m, δ, G, Same.refl _, h0, s⟩, fun m σ' H' ⟨δ', G', e, w, s'⟩ => ?_⟩
  obtain ⟨b, hb, h1, h2⟩ := turn m δ' w
  refine hb σ' G' H' _ s' fun G2 H2 g2 => ?_
  cases b with
  | true =>
    rw [if_pos rfl]
    refine ⟨fun σ4 H4 => ∃ m', m' < m ∧ ∃ δ' G', Same G G' ∧ W m' δ' ∧ St E δ' σ4 G' H4, fun _ _ z => z, h1 rfl σ' G2 H2 _ (s'.grow g2) fun o q => ?_⟩
    cases o with
    | nx δ3 =>
      obtain ⟨m', hm, w'⟩ := q
      exact fun σ4 G4 H4 e4 s4 => ⟨m', hm, δ3, G4, (e.trans g2.g).trans e4, w', s4⟩
    | ct δ3 =>
      obtain ⟨m', hm, w'⟩ := q
      exact fun σ4 G4 H4 e4 s4 => ⟨m', hm, δ3, G4, (e.trans g2.g).trans e4, w', s4⟩
    | bk δ3 => exact (p _ q).mono (G := G) (e.trans g2.g)
    | rt d => exact p _ q
    | rl d => exact p _ q
    | rk d => exact p _ q
    | rf d => exact p _ q
  | false =>
    rw [if_neg Bool.false_ne_true]
    exact p _ (h2 rfl) σ' G2 H2 (e.trans g2.g) (s'.grow g2)
/-- a comprehension: the data are those of ls, c tells which are taken, val what is made of them -/
theorem evF_lc {α : Type} (ls : List α) (enc : α → D) (c : α → Bool) (val : α → D) {vs : List Nat} (hi : EvIc E wi δ (ls.map enc)) (hz : ls.length ≤ 100000)
    (turn : ∀ a, a ∈ ls → ∃ js δ2, (∀ j ∈ js, j ∈ vs) ∧ Tg E js g (enc a) (wipeS δ vs) δ2 ∧ Et E tt δ2 (c a) ∧ (c a = true → Ev E te δ2 (val a))) : EvF E (tLc wi g tt te vs) δ ((ls.filter c).map val) := fun σ G H Q s k => hi σ G H _ s fun J G1 H1 g1 w => by
  intro Dl hD
  have s1 := s.grow g1
  have lenw : (ls.map enc).length = ls.length := List.length_map _
  have gD : G1 Dl = none := g1.i.free hD
  refine lc_it w (fun i H' => ∃ G' acc, Same G1 G' ∧ Same H1 H' ∧ Same G' H' ∧ (∀ a, H1 a ≠ none → G1 a = none → G' a = none) ∧ G' Dl = none ∧ H' Dl = some (.lst acc) ∧ RpA G' (((ls.take i).filter c).map val) acc) ⟨G1, [], Same.refl _, same_new hD, same_mut g1.i gD, fun _ _ h => h, gD, upd_same, rfl⟩ (fun i H' _ ⟨G', acc, e, eh, i', _⟩ => eh) (fun i v H' H2 hi' ⟨G', acc, e, eh, i', n', gd, hd, r⟩ y => ?_) (fun H' ⟨G', acc, e, eh, i', n', gd, hd, r⟩ => ?_)
  · obtain ⟨G2, x, hx, g2, rx⟩ := y G' e i'
    rw [lenw] at hi'
    have hx2 : x = enc ls[i] := by
      rw [List.getElem?_map, List.getElem?_eq_getElem hi'] at hx
      exact (Option.some.inj hx).symm
    subst hx2
    obtain ⟨js, δ2, hj, tg, test, elt⟩ := turn ls[i] (List.getElem_mem hi')
    have gr2 : Gr G1 H1 G2 H2 := (⟨e, eh, n', i'⟩ : Gr G1 H1 G' H').trans g2
    have s2 := (s1.grow gr2).wiped vs
    have tk : ls.take (i + 1) = ls.take i ++ [ls[i]] := by rw [List.take_succ, List.getElem?_eq_getElem hi']; rfl
    have hd2 : H2 Dl = some (.lst acc) := g2.h _ _ hd
    have gd2 : G2 Dl = none := g2.n Dl (by rw [hd]; simp) gd
    refine tg _ G2 H2 _ v s2 rx fun σ3 s3 wp => ⟨by rw [wp vs hj, wipe_wipe], test σ3 G2 H2 _ s3 fun G3 H3 g3 => ?_⟩
    have gr3 := gr2.trans g3
    have hd3 : H3 Dl = some (.lst acc) := g3.h _ _ hd2
    have gd3 : G3 Dl = none := g3.n Dl (by rw [hd2]; simp) gd2
    cases hc : c ls[i] with
    | true =>
      rw [if_pos rfl]
      refine elt hc σ3 G3 H3 _ (s3.grow g3) fun z G4 H4 g4 rz => ?_
      have gr4 := gr3.trans g4
      have hd4 : H4 Dl = some (.lst acc) := g4.h _ _ hd3
      have gd4 : G4 Dl = none := g4.n Dl (by rw [hd3]; simp) gd3
      have racc : RpA G4 (((ls.take i).filter c).map val) acc := RpA.mono ((g2.g.trans g3.g).trans g4.g) _ _ r
      refine ⟨acc, hd4, ?_, G4, acc ++ [z], gr4.g, same_mut gr4.h hD, same_mut gr4.i gd4, gr4.n, gd4, upd_same, ?_⟩
      · rw [racc.len, List.length_map]
        have h1 := List.length_filter_le c (ls.take i)
        have h2 := List.length_take_le i ls
        have h3 : (100000 : Nat) < sizeLine := by decide
        have h4 : (ls.take i).length ≤ ls.length := by rw [List.length_take]; omega
        omega
      · rw [tk, List.filter_append, List.map_append]
        have e1 : List.filter c [ls[i]] = [ls[i]] := by simp [hc]
        rw [e1]
        exact racc.snoc rz
    | false =>
      rw [if_neg Bool.false_ne_true]
      refine ⟨G3, acc, gr3.g, gr3.h, gr3.i, gr3.n, gd3, hd3, ?_⟩
      rw [tk, List.filter_append, List.map_append]
      have e1 : List.filter c [ls[i]] = [] := by simp [hc]
      rw [e1]
      simpa using RpA.mono (g2.g.trans g3.g) _ _ r
  · rw [lenw, List.take_length] at r
    exact k Dl acc G' H' ⟨g1.g.trans e, g1.h.trans eh, fun a ha ga => n' a (fun z => by
      cases q : H a with
      | none => exact ha q
      | some o => rw [g1.h a o q] at z; cases z) (g1.n a ha ga), i'⟩ (g1.h.free hD) gd hd r
/-- without an if -/
theorem et_yes : Et E tYes δ true := fun σ G H Q s k => k G H (Gr.refl s.i)
theorem evF_map {α : Type} (ls : List α) (enc : α → D) (val : α → D) {vs : List Nat} (hi : EvIc E wi δ (ls.map enc)) (hz : ls.length ≤ 100000)
    (turn : ∀ a, a ∈ ls → ∃ js δ2, (∀ j ∈ js, j ∈ vs) ∧ Tg E js g (enc a) (wipeS δ vs) δ2 ∧ Ev E te δ2 (val a)) : EvF E (tLc wi g tYes te vs) δ (ls.map val) := by
  have h := evF_lc (tt := tYes) ls enc (fun _ => true) val hi hz fun a ha => by
    obtain ⟨js, δ2, h1, h2, h3⟩ := turn a ha
    exact ⟨js, δ2, h1, h2, et_yes, fun _ => h3⟩
  have e : ls.filter (fun _ => true) = ls := by simp
  rw [e] at h
  exact h
end

/-! ### a def's promise from its body -/
def argSl (as : List Sl) (n : Nat) : List Sl := as ++ List.replicate n .no
theorem ArgsR.len {K : PySem.W.Frag} {G H : Hp} : ∀ {as : List Sl} {vs : List V}, ArgsR K G H as vs → vs.length = as.length
  | [], _, h => by cases h; rfl
  | _ :: _, _, ⟨_, _, h1, _, h3⟩ => by subst h1; simp [ArgsR.len h3]
theorem ArgsR.get {K : PySem.W.Frag} {G H : Hp} : ∀ {as : List Sl} {vs : List V} {i : Nat} {a : Sl}, ArgsR K G H as vs → as[i]? = some a → ∃ v, vs[i]? = some v ∧ ArgR K G H a v
  | [], _, _, _, _, e => by simp at e
  | _ :: _, _, 0, _, ⟨v, _, h1, h2, _⟩, e => by subst h1; simp at e; subst e; exact ⟨v, rfl, h2⟩
  | _ :: _, _, i + 1, _, ⟨_, _, h1, _, h3⟩, e => by
    subst h1
    obtain ⟨v, q1, q2⟩ := ArgsR.get (i := i) h3 (by simpa using e)
    exact ⟨v, by simpa using q1, q2⟩
theorem argR_noOw {K : PySem.W.Frag} {G H : Hp} {a : Sl} {v : V} (h : ArgR K G H a v) : ∀ xs, a ≠ .ow xs := fun xs e => by subst e; exact h
theorem st_start {K : PySem.W.Frag} {G H : Hp} {as : List Sl} {vs : List V} {N : List Str} (i : Same G H) (r : ArgsR K G H as vs) (hn : vs.length ≤ N.length) : St ⟨K, G, H⟩ (argSl as (N.length - as.length)) (start N vs) G H := by
  have hl := r.len
  have ss : start N vs = vs.map some ++ List.replicate (N.length - vs.length) none := rfl
  refine ⟨Same.refl G, Same.refl H, fun _ _ h => h, i, ?_, fun _ => none0, ⟨fun _ _ _ z => (nomatch z), fun _ _ z => absurd rfl z, fun _ _ _ _ z => absurd rfl z, fun j t o h1 h2 => ?_⟩⟩
  · rw [ss]; simp [argSl, hl]
  · rw [ss] at h2
    unfold argSl at h1
    by_cases hj : j < as.length
    · rw [List.getElem?_append_left hj] at h1
      rw [List.getElem?_append_left (by simp [hl, hj])] at h2
      obtain ⟨v, e1, e2⟩ := r.get h1
      rw [List.getElem?_map, e1] at h2
      cases h2
      cases t with
      | no => exact e2.elim
      | d x => exact ⟨v, rfl, e2⟩
      | v x => exact congrArg some e2
      | s ns => obtain ⟨a, q1, q2⟩ := e2; exact ⟨a, congrArg some q1, q2⟩
      | ow xs => exact e2.elim
      | od xs => exact e2.elim
      | ob P => exact e2.elim
    · rw [List.getElem?_append_right (by omega)] at h1
      have : t = .no := by
        obtain ⟨hlt, e⟩ := List.getElem?_eq_some_iff.mp h1
        simp at e
        exact e.symm
      subst this
      trivial
/-- a def's end: it hands d back (None where it runs through) -/
def RetOk (d : D) : Out → Prop
  | .rt d' => d' = d
  | .nx _ => d = .none
  | _ => False
theorem spR_run {K : PySem.W.Frag} {R : List Sl → D → Prop} {t : TS} {N : List Str} {vs : List V} {H : Hp} {Q : VK} {XE : XK} (hsp : spR K R vs H Q XE) (hn : vs.length ≤ N.length)
    (h : ∀ as d, R as d → ∀ E : Ent, E.K = K → Xs E t (argSl as (N.length - as.length)) (RetOk d)) : t { nx := fun _ H' => Q .non H', rt := Q } (start N vs) H := by
  obtain ⟨G, as, d, i, r, hR, k⟩ := hsp
  refine h as d hR ⟨K, G, H⟩ rfl (start N vs) G H _ (st_start i r hn) fun o e => ?_
  cases o with
  | rt d' =>
    have e : d' = d := e
    subst e
    exact fun v G' H' g r => k v G' H' g r
  | nx δ =>
    have e : d = .none := e
    subst e
    exact fun σ G' H' _ s => k .non G' H' s.gr rfl
  | rl _ => exact e.elim
  | rk _ => exact e.elim
  | rf _ => exact e.elim
  | bk _ => exact e.elim
  | ct _ => exact e.elim
theorem spF_run {K : PySem.W.Frag} {R : List Sl → List D → Prop} {t : TS} {N : List Str} {vs : List V} {H : Hp} {Q : VK} {XE : XK} (hsp : spF K R vs H Q XE) (hn : vs.length ≤ N.length)
    (h : ∀ as d, R as d → ∀ E : Ent, E.K = K → Xs E t (argSl as (N.length - as.length)) fun o => o = .rl d) : t { nx := fun _ H' => Q .non H', rt := Q } (start N vs) H := by
  obtain ⟨G, as, d, i, r, hR, k⟩ := hsp
  refine h as d hR ⟨K, G, H⟩ rfl (start N vs) G H _ (st_start i r hn) fun o e => ?_
  subst e
  exact fun p us G' H' g hp gp h2 r => k p us G' H' g hp gp h2 r
theorem spR_len {K : PySem.W.Frag} {R : List Sl → D → Prop} {n : Nat} {vs : List V} {H : Hp} {Q : VK} {XE : XK} (hsp : spR K R vs H Q XE) (h : ∀ as d, R as d → as.length = n) : vs.length = n := by
  obtain ⟨G, as, d, i, r, hR, k⟩ := hsp
  rw [r.len, h as d hR]
theorem spF_len {K : PySem.W.Frag} {R : List Sl → List D → Prop} {n : Nat} {vs : List V} {H : Hp} {Q : VK} {XE : XK} (hsp : spF K R vs H Q XE) (h : ∀ as d, R as d → as.length = n) : vs.length = n := by
  obtain ⟨G, as, d, i, r, hR, k⟩ := hsp
  rw [r.len, h as d hR]
end PL

/-! PSet: sorted(set(xs)), xs a list of whole numbers. -/
namespace PL
open PySem PySem.Spec PyProof.Rows L2
/-- the empty set's object, as its class makes it -/
abbrev emptySet (w : World) : Obj := { cls := .type "set", dict := none, data := .set #[] 0 (.fresh 0 0 (!w.params.followText "set-order")) }
/-- behind set(l) -/
def SetMade (w : World) (s : Shared) (ns : List Int) (s' : Shared) : Prop := ∃ h' tk c, s' = { s with heap := h', toks := tk } ∧ SetR w h' s.heap.objs.size (fun j => decide (j ∈ ns)) c ∧ c ≤ ns.length ∧ ∀ b o, s.heap.get? b = some o → h'.get? b = some o
section
variable {P : Program} {w : World} {A : Around} {E : Value → Shared → Prop} {s : Shared}
/-- what the list's ints are, one by one -/
theorem int_here {items : Array Value} {ns : List Int} (hi : IntsAre items.toList ns) (hz : items.size = ns.length) (i : Nat) (v : Value) (hv : items[i]? = some v) : ∃ k t, ns[i]? = some k ∧ v = .int k t := by
  have lt : i < ns.length := by rw [← hz]; exact (Array.getElem?_eq_some_iff.mp hv).1
  have hv' : items.toList[i]? = some v := by rw [Array.getElem?_toList]; exact hv
  obtain ⟨t, e⟩ := PyProof.Rows.IntsAre.int_at hi i v hv'
  exact ⟨ns[i], t, List.getElem?_eq_getElem lt, by rw [e, List.getD_eq_getElem?_getD, List.getElem?_eq_getElem lt]; rfl⟩
set_option maxHeartbeats 3200000 in
/-- the body of set.__init__ over a list, from the new set on -/
theorem init_set_list {l : Addr} {items : Array Value} {ns : List Int} {R : Value → Shared → Prop} (hh : A.handled = none) (hl : s.heap.IsList l items) (hi : IntsAre items.toList ns) (hb : ns.length + 1 < scanBound)
    (k : ∀ s', SetMade w s ns s' → R .none s') :
    wpAny (model P w) A.in1 (Builtin.«set.__init__» ⟨[.ref s.heap.objs.size, .ref l], []⟩) (fun f s' => ∃ r, f = .done (.ret r) ∧ R r s') E { s with heap := s.heap.push (emptySet w) } := by
  have hz : items.size = ns.length := by
    have q := IntsAre.length hi
    rwa [Array.length_toList] at q
  obtain ⟨ol, hol, hc, nl, hd⟩ := hl
  obtain ⟨ocls, odict, odata, oslots⟩ := ol
  simp only at hc hd
  subst hc hd
  have gl : (s.heap.push (emptySet w)).get? l = some ⟨.type "list", odict, .seq items nl, oslots⟩ := Heap.get?_push_of_some _ hol
  have gs : (s.heap.push (emptySet w)).get? s.heap.objs.size = some (emptySet w) := Heap.get?_push_size _ rfl
  have no1 := F.sub_list_set
  have no2 := F.sub_list_frozenset
  have no3 : (Value.type "list" == Value.type "dict") = false := by decide
  have isl : (s.heap.push (emptySet w)).IsList l items := ⟨_, gl, rfl, nl, rfl⟩
  unfold Builtin.«set.__init__» noKeywords Builtin.Frozenset.updateFrom
  generalize hPI : pyIter = PI
  wp_walk
  subst hPI
  refine wpAny_pyIter_list isl ?_
  refine wpAny_bind (wpAny_runValue ?_)
  have lt : l < s.heap.objs.size := Heap.lt_size hol
  have sz : (s.heap.push (emptySet w)).objs.size = s.heap.objs.size + 1 := Heap.size_push ..
  have quiet : A.in1.in1.handled = none := by simp [hh]
  have apart : l ≠ (s.heap.push (emptySet w)).objs.size := by rw [sz]; exact Nat.ne_of_lt (Nat.lt_succ_of_lt lt)
  have out : s.heap.objs.size ∉ [(s.heap.push (emptySet w)).objs.size, l] := by
    rw [sz]
    simp only [List.mem_cons, List.not_mem_nil, or_false, not_or]
    exact ⟨Nat.ne_of_lt (Nat.lt_succ_self _), Nat.ne_of_gt lt⟩
  have W := (Walks.list (prog := P) (w := w) quiet (s.heap.push (emptySet w)).objs.size l apart items).toS
  have begins : ((s.heap.push (emptySet w)).push { cls := .type "list_iterator", data := .fields #[.ref l, .int 0 0] }).get? s.heap.objs.size = some (emptySet w) := Heap.get?_push_of_some _ gs
  refine set_update_ints W s.heap.objs.size out ns hz hb (int_here hi hz) (items.size - 0) 0 { s with heap := (s.heap.push (emptySet w)).push { cls := .type "list_iterator", data := .fields #[.ref l, .int 0 0] } } (by omega) (Nat.zero_le _) ⟨⟨_, Heap.get?_push_size _ rfl, rfl, rfl⟩, isl.push _⟩ ⟨0, Nat.le_refl 0, by exact setR_new_at begins⟩ fun s' c' mv hc' hS' => ?_
  obtain ⟨h', g2, d', tk', os'⟩ := s'
  have eg : g2 = s.gens := mv.gens
  have ed : d' = s.drawn := mv.drawn
  have eo : os' = s.os := mv.os
  subst eg ed eo
  show wpAny _ _ _ _ _ _
  refine wpAny_pure ?_
  show wpAny _ _ (ret Value.none) _ _ _
  refine wpAny_pure ⟨_, rfl, k _ ⟨h', tk', c', rfl, hS', by rw [← hz]; exact hc', fun b o e => ?_⟩⟩
  have below : b < s.heap.objs.size := Heap.lt_size e
  refine mv.heap b o ?_ (Heap.get?_push_of_some _ (Heap.get?_push_of_some _ e))
  rw [sz]
  simp only [List.mem_cons, List.not_mem_nil, or_false, not_or]
  exact ⟨Nat.ne_of_lt below, Nat.ne_of_lt (Nat.lt_succ_of_lt below)⟩
set_option maxHeartbeats 3200000 in
/-- set(l), l a list of ints -/
theorem call_set_ints {l : Addr} {items : Array Value} (ns : List Int) {Q : Value → Shared → Prop} (hh : A.handled = none) (hl : s.heap.IsList l items) (hi : IntsAre items.toList ns) (hb : ns.length + 1 < scanBound)
    (k : ∀ s', SetMade w s ns s' → Q (.ref s.heap.objs.size) s') : wpAny (model P w) A (call (.type "set") [.ref l]) Q E s := by
  obtain ⟨c, tl, hmro⟩ := F.called_set.mro
  have hmade := F.called_set.made
  have hsub := F.called_set.sub
  refine wpAny_call (codeAny_of_tree ?_)
  show wpAny _ _ (callAny (.type "set") _) _ _ _
  refine wpAny_pure ⟨Code.quiet_builtin _ (by decide +kernel), codeAny_builtin F.entry_type_call ?_⟩
  rw [Around.under_plain (weight_type_call_type "set" [.ref l] []) rfl]
  have h1 := F.called_set.notType
  have h2 := F.called_set.canCreate
  have hct := F.typeCall_set_1 (.ref l)
  repeat (any_goals (first | assumption | wp_step))
  refine codeAny_mono (code_set_led1 (.ref l) (E := E) (Q₁ := fun v s₁ => v = .ref s.heap.objs.size ∧ s₁ = { s with heap := s.heap.push (emptySet w) }) ⟨rfl, rfl⟩) fun r s₁ hr => ?_
  cases r with
  | error e => exact hr
  | ok fl =>
    cases fl with
    | ret v =>
      obtain ⟨rfl, rfl⟩ := hr
      have gs : (s.heap.push (emptySet w)).get? s.heap.objs.size = some (emptySet w) := Heap.get?_push_size _ rfl
      have ty : Shared.TypeIs { s with heap := s.heap.push (emptySet w) } (.ref s.heap.objs.size) "set" := ⟨_, gs, rfl⟩
      have hli := F.called_set.init.lookup
      have hbi := F.called_set.init.bind (.ref s.heap.objs.size)
      repeat (any_goals (first | assumption | wp_step))
      refine codeAny_mono (codeAny_call_builtin (R := wants (fun r s₂ => r = .none ∧ SetMade w s ns s₂) E) F.called_set.init.plain F.entry_set_init (check_set_init_1 ty ?_)) fun r₂ s₂ hr₂ => ?_
      · refine wpAny_mono (init_set_list (R := fun r s' => r = .none ∧ SetMade w s ns s') (E := E) hh hl hi hb fun s' m => ⟨rfl, m⟩) ?_ fun _ _ z => z
        rintro a s1 ⟨r, rfl, m⟩
        exact m
      · cases r₂ with
        | error e => exact hr₂
        | ok fl₂ =>
          cases fl₂ with
          | ret r =>
            obtain ⟨rfl, h', tk', c', rfl, hS', hc', hk'⟩ := hr₂
            repeat (any_goals (first | assumption | wp_step))
            exact k _ ⟨h', _, c', rfl, hS', hc', hk'⟩
          | _ => exact hr₂.elim
    | _ => exact hr.elim
end

section
variable {P : Program} {w : World} {A : Around} {E : Value → Shared → Prop} {s : Shared}
theorem rising_lt : ∀ {l : List Int}, l.Pairwise (· ≤ ·) → l.Nodup → l.Pairwise (· < ·)
  | [], _, _ => .nil
  | x :: l, h, d => by
    obtain ⟨a, b⟩ := List.pairwise_cons.mp h
    obtain ⟨c, e⟩ := List.nodup_cons.mp d
    refine List.pairwise_cons.mpr ⟨fun y hy => ?_, rising_lt b e⟩
    have h1 := a y hy
    have h2 : x ≠ y := fun z => c (by rw [z]; exact hy)
    omega
theorem ints_back : ∀ {vs : List Value}, (∀ v ∈ vs, ∃ k t, v = Value.int k t) → IntsAre vs (vs.map SrtO.iv) := fun h => SrtO.ints_iv h
theorem key_iv {e : Int × Value} (g : GoodE e) : SrtO.iv e.2 = L2.keyOf e := by
  obtain ⟨k, t, h, _⟩ := g
  unfold L2.keyOf SrtO.iv
  rw [h]
/-- sorted(a), a a set of ints -/
theorem sorted_setAny {a : Addr} {S : Int → Bool} {n : Nat} {Q : Value → Shared → Prop} (R : SetR w s.heap a S n) (hh : A.handled = none)
    (hQ : ∀ s' p (out : List Value) (c : Nat) (ns : List Int), (∀ b o, s.heap.get? b = some o → s'.heap.get? b = some o) → s'.gens = s.gens → s'.os = s.os → s.heap.objs.size ≤ p →
      s'.heap.get? p = some (seqObj "list" out.toArray c) → IntsAre out ns → ns.Pairwise (· < ·) → (∀ k, k ∈ ns ↔ S k = true) → ns.length = n → Q (.ref p) s') : wpAny (model P w) A (call (.builtin "sorted") [.ref a]) Q E s := by
  obtain ⟨o, es, ep, t, ho, hex, hd, good, nd, mem, hb, hf, hn, ris, led⟩ := R
  have small : n + 1 < sizeLine := by
    have e1 : scanBound = 4096 := rfl
    have e2 : (4097 : Nat) < sizeLine := by decide
    omega
  refine Calls.call_function_entry kind_sorted plain_sorted entry_sorted (args_sorted1 _) ?_
  unfold Builtin.«sorted»
  refine wpAny_bind (m := checkCount "sorted" 1 1 _) (wpAny_pure ?_)
  refine wpAny_bind (collect_set (A := A.in1) hh ⟨o, ho, hex.1, hd⟩ hf hb ris led fun s1 vs keep1 fresh gens1 os1 perm => ?_)
  have lvs : vs.length = n := by
    rw [perm.length_eq, List.length_map, Array.length_toList]
    exact hn
  have are : IntsAre vs (vs.map SrtO.iv) := ints_back fun v hv => by
    obtain ⟨e, he, q⟩ := List.mem_map.mp (perm.mem_iff.mp hv)
    obtain ⟨k, tk, h1, _⟩ := good e he
    exact ⟨k, tk, q.symm.trans h1⟩
  have keys : (vs.map SrtO.iv).Perm (es.toList.map L2.keyOf) := by
    refine (perm.map SrtO.iv).trans ?_
    rw [List.map_map]
    exact List.Perm.of_eq (List.map_congr_left fun e he => key_iv (good e he))
  refine wpAny_bind (wpAny_newList ?_ (by omega))
  have there : (s1.heap.push (seqObj "list" vs.toArray 0)).get? s1.heap.objs.size = some (seqObj "list" vs.toArray 0) := Heap.get?_push_size _ rfl
  refine wpAny_bind (wpAny_holding (wpAny_call_entry slot_list_sort ⟨_, there, rfl⟩ entry_list_sort (SrtO.list_sort_ord SrtO.swo_int there (by omega) (fun h2 => SrtO.ints_sortable are h2) fun out h1 h2 => ⟨_, rfl, ?_⟩) (args_list_sort _)))
  obtain ⟨i1, i2, i3⟩ := SrtO.ints_out are h1 h2
  obtain ⟨c, hc⟩ := sortedHeap_at (vs := vs) (out := out.toArray) there
  have all : (out.map SrtO.iv).Perm (es.toList.map L2.keyOf) := i2.trans keys
  refine wpAny_pure ⟨_, rfl, hQ _ s1.heap.objs.size out c (out.map SrtO.iv) (fun b u e => ?_) gens1 os1 fresh hc i1 (rising_lt i3 (all.nodup_iff.mpr nd)) (fun k => ?_) ?_⟩
  · have q := keep1 b u e
    have lt := Heap.lt_size q
    show (sortedHeap (s1.heap.push (seqObj "list" vs.toArray 0)) s1.heap.objs.size vs out.toArray).get? b = some u
    rw [sortedHeap_old (Nat.ne_of_lt lt) (by rw [size_push']; exact Nat.lt_succ_of_lt lt)]
    exact Heap.get?_push_of_some _ q
  · rw [all.mem_iff, ← mem k]
  · rw [all.length_eq, List.length_map, Array.length_toList]; exact hn
end

/-! ### over the layer -/
section
variable {X : Cx}
/-- set(xs) -/
def rSetOf (K : PySem.W.Frag) (w : World) : List V → Hp → VK → Prop := fun xs H Q => ∃ (l : Addr) (ns : List Int), xs = [V.ref l] ∧ SqL K H l (ns.map V.int) ∧ ns.length ≤ 1000 ∧ ∀ p c, H p = none → Q (.ref p) (upd H p (SetO w p (fun j => decide (j ∈ ns)) c))
theorem cr_setL (hc : X.calm = true) : CallR X (.type "set") (rSetOf X.K X.w) := by
  intro pins s σ H xs us Q I r h
  obtain ⟨l, ns, rfl, hl, hz, q⟩ := h
  rw [Vals.ref1 r]
  obtain ⟨its, rv, pl, _⟩ := I.list hl
  have hb : ns.length + 1 < scanBound := by
    have e1 : scanBound = 4096 := rfl
    omega
  refine call_set_ints ns (I.ok.hd hc) pl.isList (by simpa using rv.ints) hb fun s' m => ?_
  obtain ⟨h', tk, c, rfl, R, _, keep⟩ := m
  exact ⟨.ref s.heap.objs.size, upd H s.heap.objs.size (SetO X.w s.heap.objs.size (fun j => decide (j ∈ ns)) c), I.laid (t' := tk) keep (Nat.le_refl _) (setO_new R), rfl, q _ c (I.hok.fresh (Nat.le_refl _))⟩
/-- sorted(set) -/
def rSrtS (w : World) : List V → Hp → VK → Prop := fun vs H Q => ∃ (a : Addr) (S : Int → Bool) (n : Nat), vs = [V.ref a] ∧ H a = some (SetO w a S n) ∧ ∀ (ns : List Int) (p : Addr), ns.Pairwise (· < ·) → (∀ k : Int, k ∈ ns ↔ S k = true) → H p = none → Q (.ref p) (upd H p (.lst (ns.map V.int)))
theorem cr_srtS (hc : X.calm = true) : CallR X (.builtin "sorted") (rSrtS X.w) := by
  intro pins s σ H vs us Q I r h
  obtain ⟨a, S, n, rfl, ha, q⟩ := h
  have R := setO_get I ha
  rw [Vals.ref1 r]
  have Rn := R
  obtain ⟨_, es, _, _, _, _, _, _, _, _, few, _, hn, _⟩ := Rn
  refine sorted_setAny R (I.ok.hd hc) fun s' p out c ns keep g o hp hg hi hs hm hl => ?_
  have hlen : (ns.map V.int).length ≤ sizeLine := by
    have e1 : scanBound = 4096 := rfl
    have e2 : (4097 : Nat) < sizeLine := by decide
    rw [List.length_map, hl]
    omega
  have hn : H p = none := I.hok.fresh hp
  have J : Inv X pins σ (upd H p (.lst (ns.map V.int))) { s with heap := s'.heap, gens := s'.gens, drawn := s'.drawn, toks := s'.toks } :=
    I.call (ch := []) (Un.laid keep hp hn) (I.hok.laid keep hp ⟨hlen, out, c, vals_of_ints hi, hg⟩) (by rw [g]; exact I.bare) (fun _ z => nomatch z)
  have e : s' = { s with heap := s'.heap, gens := s'.gens, drawn := s'.drawn, toks := s'.toks } := by
    cases s'
    cases s
    cases o
    rfl
  rw [e]
  exact ⟨.ref p, _, J, rfl, q ns p hs hm hn⟩
end
end PL

/-! POps: comparisons of data, items, lengths, built-ins, methods over pure data. -/
namespace PL
open PySem L2

/-! ### readings by name -/
def oCatS : R2 := fun x y H Q => ∃ i j, x = .str i ∧ y = .str j ∧ i.length + j.length ≤ sizeLine ∧ Q (.str (i ++ j)) H
def oIsN : R2 := fun x y H Q => y = .non ∧ Q (.bl (decide (x = .non))) H
def oNotN : R2 := fun x y H Q => y = .non ∧ Q (.bl (!decide (x = .non))) H
def cLen (K : PySem.W.Frag) : List V → Hp → VK → Prop := fun xs H Q => ∃ x n, xs = [x] ∧ LenV K x H n ∧ Q (.int n) H
def cLenS : List V → Hp → VK → Prop := fun xs H Q => ∃ z, xs = [.str z] ∧ z.length ≤ sizeLine ∧ Q (.int z.length) H
def cAbs : List V → Hp → VK → Prop := fun xs H Q => ∃ i, xs = [.int i] ∧ Q (.int (if i < 0 then -i else i)) H
def cMax2 : List V → Hp → VK → Prop := fun xs H Q => ∃ i j, xs = [.int i, .int j] ∧ Q (.int (if j > i then j else i)) H
def cMin2 : List V → Hp → VK → Prop := fun xs H Q => ∃ i j, xs = [.int i, .int j] ∧ Q (.int (if j < i then j else i)) H
def cInt : List V → Hp → VK → Prop := fun xs H Q => (∃ i, xs = [.int i] ∧ Q (.int i) H) ∨ ∃ k, xs = [.bl k] ∧ Q (.int (if k then 1 else 0)) H
def cStr : List V → Hp → VK → Prop := fun xs H Q => ∃ i, xs = [.int i] ∧ i.natAbs.log2 < 1920 ∧ Q (.str (toString i)) H
def cList (K : PySem.W.Frag) : List V → Hp → VK → Prop := fun xs H Q => ∃ p ys, xs = [.ref p] ∧ (SqL K H p ys ∨ SqT K H p ys) ∧ ∀ l, H l = none → Q (.ref l) (upd H l (.lst ys))
def cTuple (K : PySem.W.Frag) : List V → Hp → VK → Prop := fun xs H Q => ∃ p ys, xs = [.ref p] ∧ ((SqL K H p ys ∧ ∀ l, H l = none → Q (.ref l) (upd H l (.tup ys))) ∨ (SqT K H p ys ∧ Q (.ref p) H))
def oInsert : V → List V → Hp → VK → Prop := fun x vs H Q => ∃ (l : Addr) (xs : List V) (i : Int) (y : V), x = .ref l ∧ vs = [.int i, y] ∧ H l = some (.lst xs) ∧ xs.length < sizeLine ∧ 0 ≤ i ∧ i < 2 ^ 63 ∧ Q .non (upd H l (.lst (xs.take i.toNat ++ [y] ++ xs.drop i.toNat)))

/-- the type's name of a datum -/
def tyD : D → String
  | .none => "NoneType"
  | .bool _ => "bool"
  | .int _ => "int"
  | .str _ => "str"
  | .list _ => "list"
  | .tuple _ => "tuple"
  | .dict _ => "dict"
/-- no dict within: data that == tells apart -/
def shpD (d : D) : Bool := SeqAt.shaped d
mutual
theorem dp_of {K : PySem.W.Frag} {G H : Hp} (i : Same G H) : ∀ (d : D) (v : V), d.canLay0 = true → Rp G d v → Dp K H v d
  | .none, _, _, h => by cases h; exact .non
  | .bool b, _, _, h => by cases h; exact .bl b
  | .int n, _, _, h => by cases h; exact .int n
  | .str x, _, _, h => by cases h; exact .str x
  | .list ds, _, c, ⟨a, vs, h1, h2, h3⟩ => by subst h1; exact .lst (sqL_of i h2) (dpA_of i ds vs (by simpa [PyData.canLay0] using c) h3)
  | .tuple ds, _, c, ⟨a, vs, h1, h2, h3⟩ => by subst h1; exact .tup (sqT_of i h2) (dpA_of i ds vs (by simpa [PyData.canLay0] using c) h3)
  | .dict _, _, c, _ => nomatch c
theorem dpA_of {K : PySem.W.Frag} {G H : Hp} (i : Same G H) : ∀ (ds : List D) (vs : List V), PyData.canLayAll0 ds = true → RpA G ds vs → DpAll K H vs ds
  | [], _, _, h => by cases h; exact .nil
  | d :: ds, _, c, ⟨v, r, h1, h2, h3⟩ => by
    subst h1
    have c' : d.canLay0 = true ∧ PyData.canLayAll0 ds = true := by simpa [PyData.canLayAll0] using c
    exact .cons (dp_of i d v c'.1 h2) (dpA_of i ds r c'.2 h3)
end
theorem shp_lay {d : D} (h : SeqAt.shaped d = true) : d.canLay0 = true := SeqAt.canLay_of_shaped h
theorem ixN_of {α β : Type} {xs : List α} {ys : List β} (h : ys.length = xs.length) {i : Int} {x : α} (e : atI xs i = some x) : ∃ j : Nat, xs[j]? = some x ∧ ∀ y : β, ys[j]? = some y → atI ys i = some y := by
  unfold atI at e
  cases q : ixN xs.length i with
  | none => rw [q] at e; cases e
  | some j =>
    rw [q] at e
    refine ⟨j, e, fun y hy => ?_⟩
    unfold atI
    rw [h, q]
    exact hy
theorem RpA.atI {G : Hp} {ds : List D} {vs : List V} (r : RpA G ds vs) {i : Int} {d : D} (h : L2.atI ds i = some d) : ∃ v, L2.atI vs i = some v ∧ Rp G d v := by
  obtain ⟨j, h1, h2⟩ := ixN_of r.len h
  obtain ⟨v, q1, q2⟩ := r.get h1
  exact ⟨v, h2 v q1, q2⟩
theorem tyX_of {K : PySem.W.Frag} {G H : Hp} (i : Same G H) : ∀ {d : D} {v : V}, Rp G d v → TyX K H v (.type (tyD d))
  | .none, _, h => by cases h; exact .base .non
  | .bool b, _, h => by cases h; exact .base (.bl b)
  | .int n, _, h => by cases h; exact .base (.int n)
  | .str x, _, h => by cases h; exact .base (.str x)
  | .list _, _, ⟨a, vs, h1, h2, _⟩ => by subst h1; exact .base (.lst (i _ _ h2))
  | .tuple _, _, ⟨a, vs, h1, h2, _⟩ => by subst h1; exact .base (.tup (i _ _ h2))
  | .dict _, _, ⟨a, vs, h1, h2, _⟩ => by subst h1; exact .base (.dK (i _ _ h2))

section
variable {E : Ent} {δ δ' : List Sl} {ta tb te tc : TE} {tt tu : TT} {d d1 d2 : D}

/-! ### == of data -/
theorem ev_eqD (ha : Ev E ta δ d1) (hb : Ev E tb δ d2) (s1 : SeqAt.shaped d1 = true) (s2 : SeqAt.shaped d2 = true) : Ev E (tOp (rEqD E.K) ta tb) δ (.bool (PyData.eqv d1 d2)) :=
  ev_op ha hb (op_val (fun G H x y Q i _ a b q => ⟨d1, d2, dp_of i d1 x (shp_lay s1) a, dp_of i d2 y (shp_lay s2) b, s1, s2, q⟩) fun _ => rfl)
theorem ev_neD (ha : Ev E ta δ d1) (hb : Ev E tb δ d2) (s1 : SeqAt.shaped d1 = true) (s2 : SeqAt.shaped d2 = true) : Ev E (tOp (rNeD E.K) ta tb) δ (.bool (!PyData.eqv d1 d2)) :=
  ev_op ha hb (op_val (fun G H x y Q i _ a b q => ⟨d1, d2, dp_of i d1 x (shp_lay s1) a, dp_of i d2 y (shp_lay s2) b, s1, s2, q⟩) fun _ => rfl)
theorem dp_ints {K : PySem.W.Frag} {H : Hp} : ∀ ns : List Int, DpAll K H (ns.map V.int) (ns.map PyData.int)
  | [] => .nil
  | n :: ns => .cons (.int n) (dp_ints ns)
/-- script != [] -/
theorem ev_neSc {i : Nat} {ns : List Int} (h : δ[i]? = some (.s ns)) (hb : Ev E tb δ d2) (s1 : SeqAt.shaped (.list (ns.map .int)) = true) (s2 : SeqAt.shaped d2 = true) : Ev E (tOp (rNeD E.K) (tVar i) tb) δ (.bool (!PyData.eqv (.list (ns.map .int)) d2)) := fun σ G H Q s k => by
  obtain ⟨a, ho, q⟩ := s.atS h
  refine ⟨.ref a, ho, hb σ G H _ s fun y G2 H2 g r => ⟨_, d2, .lst (Same.seq (sameE s g) q) (dp_ints ns), dp_of g.i d2 y (shp_lay s2) r, s1, s2, k _ G2 H2 g rfl⟩⟩
theorem ev_eqB {i j : Bool} (ha : Ev E ta δ (.bool i)) (hb : Ev E tb δ (.bool j)) : Ev E (tOp rEq ta tb) δ (.bool (i == j)) :=
  ev_op ha hb (op_val (v := .bl (i == j)) (fun _ _ x y Q _ _ a b q => by
    have a : x = .bl i := a
    have b : y = .bl j := b
    subst a b
    exact ⟨rfl, by rw [dec_bl]; exact q⟩) fun _ => rfl)
theorem ev_neB {i j : Bool} (ha : Ev E ta δ (.bool i)) (hb : Ev E tb δ (.bool j)) : Ev E (tOp rNe ta tb) δ (.bool (!(i == j))) :=
  ev_op ha hb (op_val (v := .bl (!(i == j))) (fun _ _ x y Q _ _ a b q => by
    have a : x = .bl i := a
    have b : y = .bl j := b
    subst a b
    exact ⟨rfl, by rw [dec_bl]; exact q⟩) fun _ => rfl)
def isNoneD : D → Bool
  | .none => true
  | _ => false
theorem none_rp {G : Hp} {v : V} : ∀ {d : D}, Rp G d v → decide (v = .non) = isNoneD d
  | .none, h => by cases h; rfl
  | .bool _, h => by cases h; rfl
  | .int _, h => by cases h; rfl
  | .str _, h => by cases h; rfl
  | .list _, ⟨a, vs, h1, _⟩ => by subst h1; rfl
  | .tuple _, ⟨a, vs, h1, _⟩ => by subst h1; rfl
  | .dict _, ⟨a, vs, h1, _⟩ => by subst h1; rfl
theorem ev_isN (ha : Ev E ta δ d) : Ev E (tOp oIsN ta (tC .non)) δ (.bool (isNoneD d)) :=
  ev_op (d2 := .none) ha ev_non fun G H x y Q i _ a b k => ⟨b, by rw [none_rp a]; exact k _ G H (Gr.refl i) rfl⟩
theorem ev_notN (ha : Ev E ta δ d) : Ev E (tOp oNotN ta (tC .non)) δ (.bool (!isNoneD d)) :=
  ev_op (d2 := .none) ha ev_non fun G H x y Q i _ a b k => ⟨b, by rw [none_rp a]; exact k _ G H (Gr.refl i) rfl⟩

/-! ### items -/
theorem ev_ixL {xs : List D} {i : Int} (ha : Ev E ta δ (.list xs)) (hb : Ev E tb δ (.int i)) (h : atI xs i = some d) : Ev E (tOp (rIxL E.K) ta tb) δ d :=
  ev_op ha hb fun G H x y Q i' _ ⟨a, vs, e1, e2, r⟩ b k => by
    obtain ⟨v, q1, q2⟩ := r.atI h
    exact ⟨a, vs, i, v, e1, b, sqL_of i' e2, q1, k v G H (Gr.refl i') q2⟩
theorem ev_ixT {xs : List D} {i : Int} (ha : Ev E ta δ (.tuple xs)) (hb : Ev E tb δ (.int i)) (h : atI xs i = some d) : Ev E (tOp (rIxT E.K) ta tb) δ d :=
  ev_op ha hb fun G H x y Q i' _ ⟨a, vs, e1, e2, r⟩ b k => by
    obtain ⟨v, q1, q2⟩ := r.atI h
    exact ⟨a, vs, i, v, e1, b, sqT_of i' e2, q1, k v G H (Gr.refl i') q2⟩
/-- an item of an own list -/
theorem ev_ixO {n : Nat} {xs : List D} {i : Int} (h0 : δ[n]? = some (.ow xs)) (hb : Ev E tb δ (.int i)) (h : atI xs i = some d) : Ev E (tOp (rIxL E.K) (tVar n) tb) δ d := fun σ G H Q s k => by
  obtain ⟨p, vs, ho, h1, h2, h3, h4⟩ := s.atOw h0
  refine ⟨.ref p, ho, hb σ G H _ s fun y G2 H2 g r => ?_⟩
  obtain ⟨v, q1, q2⟩ := h2.atI h
  exact ⟨p, vs, i, v, rfl, r, SqL.of (g.h _ _ h1), q1, k v G2 H2 g (Rp.mono g.g _ _ q2)⟩
/-- an item of the script -/
theorem ev_ixS {n : Nat} {ns : List Int} {i z : Int} (h0 : δ[n]? = some (.s ns)) (hb : Ev E tb δ (.int i)) (h : atI ns i = some z) : Ev E (tOp (rIxL E.K) (tVar n) tb) δ (.int z) := fun σ G H Q s k => by
  obtain ⟨a, ho, q⟩ := s.atS h0
  refine ⟨.ref a, ho, hb σ G H _ s fun y G2 H2 g r => ?_⟩
  obtain ⟨j, e1, e2⟩ := ixN_of (xs := ns) (ys := ns.map V.int) (by simp) h
  have hv : atI (ns.map V.int) i = some (.int z) := e2 _ (by rw [List.getElem?_map, e1]; rfl)
  exact ⟨a, ns.map V.int, i, .int z, rfl, r, Same.seq (sameE s g) q, hv, k _ G2 H2 g rfl⟩
theorem atI_mod {α : Type} {xs : List α} {i : Int} (h : xs ≠ []) : ∃ x, atI xs (i % (xs.length : Int)) = some x ∧ xs[(i % (xs.length : Int)).toNat]? = some x := by
  have hp : 0 < xs.length := List.length_pos_iff.mpr h
  have h1 : 0 ≤ i % (xs.length : Int) := Int.emod_nonneg i (by omega)
  have h2 : i % (xs.length : Int) < (xs.length : Int) := Int.emod_lt_of_pos i (by omega)
  have e : (((i % (xs.length : Int)).toNat : Nat) : Int) = i % (xs.length : Int) := Int.toNat_of_nonneg h1
  have lt : (i % (xs.length : Int)).toNat < xs.length := by omega
  refine ⟨xs[(i % (xs.length : Int)).toNat], ?_, List.getElem?_eq_getElem lt⟩
  have := atI_nat (xs := xs) (List.getElem?_eq_getElem lt)
  rwa [e] at this

/-! ### lengths -/
theorem ev_lenL {xs : List D} (ha : Ev E ta δ (.list xs)) : Ev E (tCB (cLen E.K) (tCons ta tNil)) δ (.int (xs.length : Int)) :=
  ev_cb (ed_cons ha ed_nil) fun G H vs Q i _ ⟨v, r, e, ⟨a, us, e1, e2, e3⟩, e4⟩ k => by
    have e4 : r = [] := e4
    subst e e1 e4
    exact ⟨_, us.length, rfl, .inl ⟨us, sqL_of i e2, rfl⟩, by rw [e3.len]; exact k _ G H (Gr.refl i) rfl⟩
theorem ev_lenT {xs : List D} (ha : Ev E ta δ (.tuple xs)) : Ev E (tCB (cLen E.K) (tCons ta tNil)) δ (.int (xs.length : Int)) :=
  ev_cb (ed_cons ha ed_nil) fun G H vs Q i _ ⟨v, r, e, ⟨a, us, e1, e2, e3⟩, e4⟩ k => by
    have e4 : r = [] := e4
    subst e e1 e4
    exact ⟨_, us.length, rfl, .inr ⟨us, sqT_of i e2, rfl⟩, by rw [e3.len]; exact k _ G H (Gr.refl i) rfl⟩
theorem ev_lenO {n : Nat} {xs : List D} (h0 : δ[n]? = some (.ow xs)) : Ev E (tCB (cLen E.K) (tCons (tVar n) tNil)) δ (.int (xs.length : Int)) :=
  Ev.lend h0 (ev_lenL (ev_var (by
    have := (List.getElem?_eq_some_iff.mp h0).1
    simp [this]))) rfl
theorem ev_lenSc {n : Nat} {ns : List Int} (h0 : δ[n]? = some (.s ns)) : Ev E (tCB (cLen E.K) (tCons (tVar n) tNil)) δ (.int (ns.length : Int)) := fun σ G H Q s k => by
  obtain ⟨a, ho, q⟩ := s.atS h0
  exact ⟨.ref a, ho, .ref a, (ns.map V.int).length, rfl, .inl ⟨_, Same.seq s.h q, rfl⟩, by rw [List.length_map]; exact k _ G H (Gr.refl s.i) rfl⟩
theorem ev_lenS {z : Str} (ha : Ev E ta δ (.str z)) (hz : z.length ≤ 1000000) : Ev E (tCB cLenS (tCons ta tNil)) δ (.int (z.length : Int)) :=
  ev_cb (ed_cons ha ed_nil) fun G H vs Q i _ ⟨v, r, e, e1, e2⟩ k => by
    have e1 : v = .str z := e1
    have e2 : r = [] := e2
    subst e e1 e2
    exact ⟨z, rfl, Nat.le_trans hz (by decide), k _ G H (Gr.refl i) rfl⟩

/-! ### numbers -/
theorem ca_two {c : List V → Hp → VK → Prop} {i j z : Int} (h : ∀ H (Q : VK), Q (.int z) H → c [.int i, .int j] H Q) : CaD E c [.int i, .int j] (.int z) := fun G H vs Q i' _ ⟨v, r, e, e1, w, r', e2, e3, e4⟩ k => by
  have e1 : v = .int i := e1
  have e3 : w = .int j := e3
  have e4 : r' = [] := e4
  subst e e1 e2 e3 e4
  exact h H Q (k _ G H (Gr.refl i') rfl)
theorem ca_one {c : List V → Hp → VK → Prop} {d z : D} (hd : scalD z = true) {w : V} (hz : ∀ G, Rp G z w) (h : ∀ G H v (Q : VK), Same G H → Rp G d v → Q w H → c [v] H Q) : CaD E c [d] z := fun G H vs Q i' _ ⟨v, r, e, e1, e4⟩ k => by
  have e4 : r = [] := e4
  subst e e4
  exact h G H v Q i' e1 (k _ G H (Gr.refl i') (hz G))
theorem ev_max2 {i j : Int} (ha : Ev E ta δ (.int i)) (hb : Ev E tb δ (.int j)) : Ev E (tCB cMax2 (tCons ta (tCons tb tNil))) δ (.int (max i j)) :=
  ev_cb (ed_cons ha (ed_cons hb ed_nil)) (ca_two fun H Q q => ⟨i, j, rfl, by
    have e : (if j > i then j else i) = max i j := by split <;> omega
    rw [e]; exact q⟩)
theorem ev_min2 {i j : Int} (ha : Ev E ta δ (.int i)) (hb : Ev E tb δ (.int j)) : Ev E (tCB cMin2 (tCons ta (tCons tb tNil))) δ (.int (min i j)) :=
  ev_cb (ed_cons ha (ed_cons hb ed_nil)) (ca_two fun H Q q => ⟨i, j, rfl, by
    have e : (if j < i then j else i) = min i j := by split <;> omega
    rw [e]; exact q⟩)
theorem ev_abs {i : Int} (ha : Ev E ta δ (.int i)) : Ev E (tCB cAbs (tCons ta tNil)) δ (.int (if i < 0 then -i else i)) :=
  ev_cb (ed_cons ha ed_nil) (ca_one (z := .int (if i < 0 then -i else i)) rfl (fun _ => rfl) fun G H v Q _ e q => by
    have e : v = .int i := e
    subst e
    exact ⟨i, rfl, q⟩)
theorem ev_intB {b : Bool} (ha : Ev E ta δ (.bool b)) : Ev E (tCB cInt (tCons ta tNil)) δ (.int (if b then 1 else 0)) :=
  ev_cb (ed_cons ha ed_nil) (ca_one (z := .int (if b then 1 else 0)) rfl (fun _ => rfl) fun G H v Q _ e q => by
    have e : v = .bl b := e
    subst e
    exact .inr ⟨b, rfl, q⟩)
theorem ev_neg {i : Int} (ha : Ev E ta δ (.int i)) : Ev E (tUn (rU fun i => .int (-i)) ta) δ (.int (-i)) := fun σ G H Q s k => ha σ G H _ s fun v G2 H2 g r => ⟨i, r, k _ G2 H2 g rfl⟩

/-! ### isinstance -/
theorem ev_isi {n : String} {b : Bool} (ha : Ev E ta δ d) (h : kitB (tyD d) n = some b) : Ev E (tCB (rIsi E.K) (tCons ta (tCons (tC (.ty n)) tNil))) δ (.bool b) := fun σ G H Q s k => ha σ G H _ s fun v G2 H2 g r =>
  ⟨v, .ty n, _, _, b, rfl, .ty n, tyX_of g.i r, kit_ty h, k _ G2 H2 g rfl⟩
theorem ev_isi2 {n m : String} {b c : Bool} (ha : Ev E ta δ d) (h : kitB (tyD d) n = some b) (h2 : kitB (tyD d) m = some c) : Ev E (tCB (rIsiT E.K) (tCons ta (tCons (tTup (tCons (tC (.ty n)) (tCons (tC (.ty m)) tNil))) tNil))) δ (.bool (b || c)) := fun σ G H Q s k => ha σ G H _ s fun v G2 H2 g r => by
  refine ⟨by show 2 ≤ sizeLine; decide, fun p hp => ?_⟩
  have g2 := Gr.new (o := .tup [.ty n, .ty m]) g.i hp
  refine ⟨v, p, _, _, _, b || c, rfl, upd_same, .cons (.ty n) (.cons (.ty m) .nil), tyX_of g2.i (Rp.mono g2.g _ _ r), ?_, k _ _ _ (g.trans g2) rfl⟩
  refine kitAny_cons (kit_ty h) (fun e => kitAny_cons (kit_ty h2) (fun e2 => ?_) fun e2 => ?_) fun e => ?_
  · subst e e2; rfl
  · subst e e2; rfl
  · subst e; rfl

/-! ### new lists -/
theorem evF_listRg {n : Int} (ha : Ev E ta δ (.int n)) (h : 0 ≤ n ∧ n ≤ 1000000) : EvF E (tLstRg (tRg1 ta)) δ (intsD 0 n.toNat) := fun σ G H Q s k => ha σ G H _ s fun v G2 H2 g r => by
  refine ⟨n, r, RgOk.of_le (by omega) (by omega) (by omega) (by omega), fun q hq => ?_⟩
  refine k q _ G2 _ (g.trans (Gr.side g.i (same_new hq))) (g.h.free hq) (g.i.free hq) upd_same ?_
  have e : rgV 0 n = ((List.range n.toNat).map fun (i : Nat) => (0 + (i : Int))).map V.int := by
    unfold rgV
    rw [List.map_map, Int.sub_zero]
    rfl
  have e2 : intsD 0 n.toNat = ((List.range n.toNat).map fun (i : Nat) => (0 + (i : Int))).map PyData.int := by
    unfold intsD
    rw [List.map_map]
    rfl
  rw [e, e2]
  exact RpA.ints _
theorem evF_listT {xs : List D} (ha : Ev E ta δ (.tuple xs)) : EvF E (tCB (cList E.K) (tCons ta tNil)) δ xs :=
  evF_cb (ed_cons ha ed_nil) fun G H vs Q i _ ⟨v, r, e, ⟨a, us, e1, e2, e3⟩, e4⟩ k => by
    have e4 : r = [] := e4
    subst e e1 e4
    exact ⟨a, us, rfl, .inr (sqT_of i e2), fun l hl => k l us G _ (Gr.side i (same_new hl)) hl (i.free hl) upd_same e3⟩
theorem evF_listL {xs : List D} (ha : Ev E ta δ (.list xs)) : EvF E (tCB (cList E.K) (tCons ta tNil)) δ xs :=
  evF_cb (ed_cons ha ed_nil) fun G H vs Q i _ ⟨v, r, e, ⟨a, us, e1, e2, e3⟩, e4⟩ k => by
    have e4 : r = [] := e4
    subst e e1 e4
    exact ⟨a, us, rfl, .inl (sqL_of i e2), fun l hl => k l us G _ (Gr.side i (same_new hl)) hl (i.free hl) upd_same e3⟩
theorem evF_cat {xs ys : List D} (ha : Ev E ta δ (.list xs)) (hb : Ev E tb δ (.list ys)) (hz : xs.length + ys.length ≤ 100000) : EvF E (tOp rCat ta tb) δ (xs ++ ys) := fun σ G H Q s k =>
  ha σ G H _ s fun x G1 H1 g1 ⟨a, vs, e1, e2, e3⟩ => hb σ G1 H1 _ (s.grow g1) fun y G2 H2 g2 ⟨b, us, f1, f2, f3⟩ => by
    subst e1 f1
    refine ⟨a, b, vs, us, rfl, rfl, g2.i _ _ (g2.g _ _ e2), g2.i _ _ f2, by rw [e3.len, f3.len]; exact Nat.le_trans hz (by decide), fun p hp => ?_⟩
    have g := g1.trans g2
    exact k p _ G2 _ (g.trans (Gr.side g.i (same_new hp))) (g.h.free hp) (g.i.free hp) upd_same ((RpA.mono g2.g _ _ e3).append f3)
theorem evF_revL {xs : List D} (ha : Ev E ta δ (.list xs)) : EvF E (tRevL E.K ta) δ xs.reverse := fun σ G H Q s k => ha σ G H _ s fun x G1 H1 g ⟨a, vs, e1, e2, e3⟩ => by
  subst e1
  exact ⟨a, vs, rfl, sqL_of g.i e2, fun p hp => k p _ G1 _ (g.trans (Gr.side g.i (same_new hp))) (g.h.free hp) (g.i.free hp) upd_same e3.reverse⟩
/-- the ints in order: THE rising list of the same ints -/
theorem evF_sorted {ns : List Int} {ms : List Int} (ha : Ev E ta δ (.list (ns.map .int))) (h : ∀ ms' : List Int, ms'.Perm ns → ms'.Pairwise (· ≤ ·) → ms' = ms) : EvF E (tCB (rSortedI E.K) (tCons ta tNil)) δ (ms.map .int) :=
  evF_cb (ed_cons ha ed_nil) fun G H vs Q i _ ⟨v, r, e, ⟨a, us, e1, e2, e3⟩, e4⟩ k => by
    have e4 : r = [] := e4
    subst e e1 e4
    have e5 := RpA.of_ints e3
    subst e5
    refine ⟨a, ns, rfl, sqL_of i e2, fun ms' p hp1 hp2 hp => ?_⟩
    have := h ms' hp1 hp2
    subst this
    exact k p _ G _ (Gr.side i (same_new hp)) hp (i.free hp) upd_same (RpA.ints _)
theorem evF_sortSet {w : World} {ns ms : List Int} (ha : Ev E ta δ (.list (ns.map .int))) (hz : ns.length ≤ 1000) (h : ∀ ms' : List Int, ms'.Pairwise (· < ·) → (∀ k, k ∈ ms' ↔ k ∈ ns) → ms' = ms) :
    EvF E (tCB (rSrtS w) (tCons (tCB (rSetOf E.K w) (tCons ta tNil)) tNil)) δ (ms.map .int) := fun σ G H Q s k => ha σ G H _ s fun x G1 H1 g ⟨a, vs, e1, e2, e3⟩ => by
  subst e1
  have e5 := RpA.of_ints e3
  subst e5
  refine ⟨a, ns, rfl, sqL_of g.i e2, hz, fun p c hp => ⟨p, _, c, rfl, upd_same, fun ms' q h1 h2 hq => ?_⟩⟩
  have := h ms' h1 fun k => (h2 k).trans decide_eq_true_iff
  subst this
  have hq1 : H1 q = none := (same_new hp).free hq
  exact k q _ G1 _ (g.trans (Gr.side g.i ((same_new hp).trans (same_new hq)))) (g.h.free hq1) (g.i.free hq1) upd_same (RpA.ints _)
theorem ev_sum {ns : List Int} (ha : Ev E ta δ (.list (ns.map .int))) : Ev E (tCB (rSum E.K) (tCons ta tNil)) δ (.int ns.sum) :=
  ev_cb (ed_cons ha ed_nil) fun G H vs Q i _ ⟨v, r, e, ⟨a, us, e1, e2, e3⟩, e4⟩ k => by
    have e4 : r = [] := e4
    subst e e1 e4
    have e5 := RpA.of_ints e3
    subst e5
    exact ⟨a, ns, rfl, sqL_of i e2, k _ G H (Gr.refl i) rfl⟩
theorem ev_all {bs : List Bool} (ha : Ev E ta δ (.list (bs.map .bool))) : Ev E (tCB (rAll E.K) (tCons ta tNil)) δ (.bool (bs.all id)) :=
  ev_cb (ed_cons ha ed_nil) fun G H vs Q i _ ⟨v, r, e, ⟨a, us, e1, e2, e3⟩, e4⟩ k => by
    have e4 : r = [] := e4
    subst e e1 e4
    have e5 := RpA.of_bools e3
    subst e5
    exact ⟨a, bs, rfl, sqL_of i e2, k _ G H (Gr.refl i) rfl⟩
/-- in, not in: flat data -/
def flatD : D → Bool
  | .none => true
  | .bool _ => true
  | .int _ => true
  | .str _ => true
  | _ => false
theorem inV_ints (x : Int) : ∀ ns : List Int, inV (.int x) (ns.map V.int) = decide (x ∈ ns)
  | [] => rfl
  | n :: ns => by
    have ih := inV_ints x ns
    unfold inV at ih ⊢
    rw [List.map_cons, List.any_cons, ih]
    have e : eqV (.int n) (.int x) = decide (n = x) := by
      unfold eqV
      first | rfl | exact (decide_eq_decide.mpr Iff.rfl) | simp
    rw [e]
    by_cases h : x = n
    · subst h; simp
    · simp [h, Ne.symm h]
theorem flat_ints (ns : List Int) : (ns.map V.int).all flatV = true := by
  rw [List.all_map]
  exact List.all_eq_true.mpr fun _ _ => rfl
theorem ev_inL {x : Int} {ns : List Int} (ha : Ev E ta δ (.int x)) (hb : Ev E tb δ (.list (ns.map .int))) : Ev E (tOp (rIn E.K false) ta tb) δ (.bool (decide (x ∈ ns))) :=
  ev_op ha hb fun G H a b Q i _ e ⟨p, us, e1, e2, e3⟩ k => by
    have e : a = .int x := e
    have e5 := RpA.of_ints e3
    subst e e1 e5
    exact ⟨p, _, rfl, .inl (sqL_of i e2), rfl, flat_ints ns, by rw [inV_ints]; exact k _ G H (Gr.refl i) rfl⟩
theorem ev_notInL {x : Int} {ns : List Int} (ha : Ev E ta δ (.int x)) (hb : Ev E tb δ (.list (ns.map .int))) : Ev E (tOp (rIn E.K true) ta tb) δ (.bool (!decide (x ∈ ns))) :=
  ev_op ha hb fun G H a b Q i _ e ⟨p, us, e1, e2, e3⟩ k => by
    have e : a = .int x := e
    have e5 := RpA.of_ints e3
    subst e e1 e5
    exact ⟨p, _, rfl, .inl (sqL_of i e2), rfl, flat_ints ns, by rw [inV_ints]; exact k _ G H (Gr.refl i) rfl⟩
theorem ev_inT {x : Int} {ns : List Int} (ha : Ev E ta δ (.int x)) (hb : Ev E tb δ (.tuple (ns.map .int))) : Ev E (tOp (rIn E.K false) ta tb) δ (.bool (decide (x ∈ ns))) :=
  ev_op ha hb fun G H a b Q i _ e ⟨p, us, e1, e2, e3⟩ k => by
    have e : a = .int x := e
    have e5 := RpA.of_ints e3
    subst e e1 e5
    exact ⟨p, _, rfl, .inr (sqT_of i e2), rfl, flat_ints ns, by rw [inV_ints]; exact k _ G H (Gr.refl i) rfl⟩
theorem ev_count {x : Int} {ns : List Int} (hb : Ev E tb δ (.list (ns.map .int))) (ha : Ev E ta δ (.int x)) : Ev E (tBM E.K "list" (rCntI E.K) tb (tCons ta tNil)) δ (.int (ns.count x : Nat)) := fun σ G H Q s k =>
  hb σ G H _ s fun b G1 H1 g1 ⟨p, us, e1, e2, e3⟩ => by
    have e5 := RpA.of_ints e3
    subst e1 e5
    refine ⟨.inl ⟨rfl, _, sqL_of g1.i e2⟩, ha σ G1 H1 _ (s.grow g1) fun a G2 H2 g2 e => ?_⟩
    have e : a = .int x := e
    subst e
    exact ⟨p, ns, x, rfl, rfl, sqL_of g2.i (g2.g _ _ e2), k _ G2 H2 (g1.trans g2) rfl⟩

/-! ### own lists changed -/
theorem evM_append {n : Nat} {xs : List D} (h0 : δ[n]? = some (.ow xs)) (ha : Ev E ta δ d) (hz : xs.length < 100000) : EvM E (tBM E.K "list" rAppend (tVar n) (tCons ta tNil)) δ (δ.set n (.ow (xs ++ [d]))) .none := fun σ G H Q s k => by
  obtain ⟨p, vs, ho, h1, h2, h3, h4⟩ := s.atOw h0
  refine ⟨.ref p, ho, .inl ⟨rfl, _, SqL.of h1⟩, ha σ G H _ s fun v G2 H2 g r => ?_⟩
  have s2 := s.grow g
  refine ⟨p, vs, v, rfl, rfl, g.h _ _ h1, by rw [h2.len]; exact Nat.lt_of_lt_of_le hz (by decide), k _ G2 _ g.g (s2.mutate h0 ho ((RpA.mono g.g _ _ h2).snoc r)) rfl⟩
theorem evM_pop {n : Nat} {xs : List D} (h0 : δ[n]? = some (.ow (xs ++ [d]))) : EvM E (tBM0 E.K "list" rPop (tVar n)) δ (δ.set n (.ow xs)) d := fun σ G H Q s k => by
  obtain ⟨p, vs, ho, h1, h2, h3, h4⟩ := s.atOw h0
  obtain ⟨v, hv, rv⟩ := h2.get (i := xs.length) (d := d) (by simp)
  have hl : vs.length = xs.length + 1 := by rw [h2.len]; simp
  have hd : vs.dropLast = vs.take xs.length := by rw [List.dropLast_eq_take, hl]; rfl
  have rr : RpA G xs vs.dropLast := by
    rw [hd]
    have := h2.take xs.length
    rwa [List.take_left'] at this
    rfl
  exact ⟨.ref p, ho, .inl ⟨rfl, _, SqL.of h1⟩, p, vs, v, rfl, rfl, h1, by rw [hl]; exact hv, k v G _ (Same.refl G) (s.mutate h0 ho rr) rv⟩
theorem seqIx_nat {j n : Nat} (h : j < n) : seqIndex? (j : Int) n = some j := by
  have := (ixN_seq (n := n) (i := (j : Int)) (j := j) (by unfold ixN; rw [if_pos (by omega), if_pos (by omega)]; simp)).1
  exact this
theorem evM_popAt {n j : Nat} {xs : List D} {i : Int} (h0 : δ[n]? = some (.ow xs)) (hi : Ev E ta δ (.int i)) (hj : i = (j : Int)) (hz : j < 100000) (hx : xs[j]? = some d) : EvM E (tBM E.K "list" rPopAt (tVar n) (tCons ta tNil)) δ (δ.set n (.ow (xs.eraseIdx j))) d := fun σ G H Q s k => by
  obtain ⟨p, vs, ho, h1, h2, h3, h4⟩ := s.atOw h0
  subst hj
  refine ⟨.ref p, ho, .inl ⟨rfl, _, SqL.of h1⟩, hi σ G H _ s fun v G2 H2 g r => ?_⟩
  have s2 := s.grow g
  obtain ⟨u, hu, ru⟩ := h2.get hx
  have lt : j < vs.length := (List.getElem?_eq_some_iff.mp hu).1
  have r : v = .int (j : Int) := r
  subst r
  exact ⟨p, vs, (j : Int), j, u, rfl, rfl, g.h _ _ h1, by omega, by omega, seqIx_nat lt, hu, k u G2 _ g.g (s2.mutate h0 ho ((RpA.mono g.g _ _ h2).eraseIdx j)) (Rp.mono g.g _ _ ru)⟩
theorem xs_setO {n j : Nat} {xs : List D} {i : Int} {Φ : Out → Prop} (h0 : δ[n]? = some (.ow xs)) (ha : Ev E ta δ d) (hi : Ev E tb δ (.int i)) (hj : i = (j : Int)) (hx : j < xs.length) (k : Φ (.nx (δ.set n (.ow (xs.set j d))))) : Xs E (tAsg ta (gSub (tVar n) tb rSetL)) δ Φ := fun σ G H X s p => by
  obtain ⟨q, vs, ho, h1, h2, h3, h4⟩ := s.atOw h0
  subst hj
  refine ha σ G H _ s fun v G1 H1 g1 r1 => ⟨.ref q, ho, hi σ G1 H1 _ (s.grow g1) fun w G2 H2 g2 r2 => ?_⟩
  have g := g1.trans g2
  have r2 : w = .int (j : Int) := r2
  subst r2
  have hl : j < vs.length := by rw [h2.len]; exact hx
  refine ⟨q, vs, (j : Int), j, rfl, rfl, g.h _ _ h1, by unfold ixN; rw [if_pos (by omega), if_pos (by omega)]; simp, ?_⟩
  exact p _ k σ G2 _ g.g ((s.grow g).mutate h0 ho ((RpA.mono g.g _ _ h2).set (Rp.mono g2.g _ _ r1) j))
end
end PL

/-! PDict: dicts of a def's own, and dicts among the data. -/
namespace PL
open PySem L2

def valD (kvs : List (Key × D)) (k : Key) : Option D := (kvs.find? fun kv => decide (kv.1 = k)).map (·.2)
def putD (kvs : List (Key × D)) (k : Key) (v : D) : List (Key × D) := if (kvs.any fun kv => decide (kv.1 = k)) = true then kvs.map (fun kv => if kv.1 = k then (kv.1, v) else kv) else kvs ++ [(k, v)]
theorem RpK.len {G : Hp} : ∀ {kvs : List (Key × D)} {ks : List (Key × V)}, RpK G kvs ks → ks.length = kvs.length
  | [], _, h => by cases h; rfl
  | (_, _) :: _, _, ⟨_, _, h1, _, h3⟩ => by subst h1; simp [RpK.len h3]
theorem RpK.val {G : Hp} (k : Key) : ∀ {kvs : List (Key × D)} {ks : List (Key × V)}, RpK G kvs ks → (∃ d v, valD kvs k = some d ∧ valV ks k = some v ∧ Rp G d v) ∨ (valD kvs k = none ∧ valV ks k = none)
  | [], _, h => by cases h; exact .inr ⟨rfl, rfl⟩
  | (j, d) :: ps, _, ⟨v, r, h1, h2, h3⟩ => by
    subst h1
    by_cases e : j = k
    · subst e
      exact .inl ⟨d, v, by simp [valD], by simp [valV], h2⟩
    · rcases RpK.val k h3 with ⟨d', v', q1, q2, q3⟩ | ⟨q1, q2⟩
      · exact .inl ⟨d', v', by simpa [valD, List.find?_cons, e] using q1, by rw [valV_neg (p := (j, v)) e]; exact q2, q3⟩
      · exact .inr ⟨by simpa [valD, List.find?_cons, e] using q1, by rw [valV_neg (p := (j, v)) e]; exact q2⟩
theorem RpK.any {G : Hp} (k : Key) : ∀ {kvs : List (Key × D)} {ks : List (Key × V)}, RpK G kvs ks → (ks.any fun kv => decide (kv.1 = k)) = (kvs.any fun kv => decide (kv.1 = k))
  | [], _, h => by cases h; rfl
  | (j, d) :: ps, _, ⟨v, r, h1, h2, h3⟩ => by subst h1; simp only [List.any_cons, RpK.any k h3]
theorem RpK.mapped {G : Hp} (k : Key) {d : D} {v : V} (hd : Rp G d v) : ∀ {kvs : List (Key × D)} {ks : List (Key × V)}, RpK G kvs ks → RpK G (kvs.map fun kv => if kv.1 = k then (kv.1, d) else kv) (ks.map fun kv => if kv.1 = k then (kv.1, v) else kv)
  | [], _, h => by cases h; simp [RpK]
  | (j, d') :: ps, _, ⟨v', r, h1, h2, h3⟩ => by
    subst h1
    by_cases e : j = k
    · simp only [List.map_cons, e, if_true]
      exact ⟨v, _, rfl, hd, RpK.mapped k hd h3⟩
    · simp only [List.map_cons, e, if_false]
      exact ⟨v', _, rfl, h2, RpK.mapped k hd h3⟩
theorem RpK.snoc {G : Hp} {k : Key} {d : D} {v : V} (hd : Rp G d v) : ∀ {kvs : List (Key × D)} {ks : List (Key × V)}, RpK G kvs ks → RpK G (kvs ++ [(k, d)]) (ks ++ [(k, v)])
  | [], _, h => by cases h; exact ⟨v, [], rfl, hd, rfl⟩
  | (j, d') :: ps, _, ⟨v', r, h1, h2, h3⟩ => by subst h1; exact ⟨v', _, rfl, h2, RpK.snoc hd h3⟩
theorem RpK.put {G : Hp} {kvs : List (Key × D)} {ks : List (Key × V)} (r : RpK G kvs ks) (k : Key) {d : D} {v : V} (hd : Rp G d v) : RpK G (putD kvs k d) (putK ks k v) := by
  unfold putD putK
  rw [r.any k]
  split
  · exact r.mapped k hd
  · exact r.snoc hd
theorem RpK.get {G : Hp} : ∀ {kvs : List (Key × D)} {ks : List (Key × V)} {i : Nat} {k : Key} {v : V}, RpK G kvs ks → ks[i]? = some (k, v) → ∃ d, kvs[i]? = some (k, d) ∧ Rp G d v
  | [], _, _, _, _, h, e => by cases h; simp at e
  | (j, d) :: ps, _, 0, k, v, ⟨v', r, h1, h2, h3⟩, e => by subst h1; simp at e; obtain ⟨e1, e2⟩ := e; subst e1 e2; exact ⟨d, rfl, h2⟩
  | (j, d) :: ps, _, i + 1, k, v, ⟨v', r, h1, h2, h3⟩, e => by subst h1; exact RpK.get (i := i) h3 (by simpa using e)
/-- a key that bears a datum -/
def keyOfD : D → Option Key
  | .int i => some (.inl i)
  | .str x => some (.inr x)
  | _ => none
theorem keyOfD_rp {G : Hp} {v : V} {k : Key} : ∀ {d : D}, keyOfD d = some k → Rp G d v → v = kV k
  | .int i, e, h => by cases e; exact h
  | .str x, e, h => by cases e; exact h
  | .none, e, _ => nomatch e
  | .bool _, e, _ => nomatch e
  | .list _, e, _ => nomatch e
  | .tuple _, e, _ => nomatch e
  | .dict _, e, _ => nomatch e
/-- a dict among the data -/
def dictD (kvs : List (Key × D)) : D := .dict (kvs.map fun kv => (kD kv.1, kv.2))
theorem kD_inj : ∀ {a b : Key}, kD a = kD b → a = b
  | .inl _, .inl _, h => by cases h; rfl
  | .inr _, .inr _, h => by cases h; rfl
  | .inl _, .inr _, h => nomatch h
  | .inr _, .inl _, h => nomatch h
theorem rpD_of {G : Hp} : ∀ {kvs : List (Key × D)} {ks : List (Key × V)}, RpK G kvs ks → RpD G (kvs.map fun kv => (kD kv.1, kv.2)) ks
  | [], _, h => h
  | (_, _) :: _, _, ⟨v, r, h1, h2, h3⟩ => ⟨_, v, r, h1, rfl, h2, rpD_of h3⟩
theorem of_rpD {G : Hp} : ∀ {kvs : List (Key × D)} {ks : List (Key × V)}, RpD G (kvs.map fun kv => (kD kv.1, kv.2)) ks → RpK G kvs ks
  | [], _, h => h
  | (_, _) :: _, _, ⟨k, v, r, h1, h2, h3, h4⟩ => by
    have e := kD_inj h2
    subst e
    exact ⟨v, r, h1, h3, of_rpD h4⟩
theorem rp_dict {G : Hp} {kvs : List (Key × D)} {v : V} (h : Rp G (dictD kvs) v) : ∃ a ks, v = .ref a ∧ G a = some (.dK ks) ∧ RpK G kvs ks := by
  obtain ⟨a, ks, h1, h2, h3⟩ := h
  exact ⟨a, ks, h1, h2, of_rpD h3⟩

/-- a new dict -/
def EvK (E : Ent) (te : TE) (δ : List Sl) (kvs : List (Key × D)) : Prop := ∀ σ G H (Q : VK), St E δ σ G H → (∀ p ks G2 H2, Gr G H G2 H2 → H p = none → G2 p = none → H2 p = some (.dK ks) → RpK G2 kvs ks → Q (.ref p) H2) → te σ H Q
def spK (K : PySem.W.Frag) (R : List Sl → List (Key × D) → Prop) : Sp := fun vs H Q _ => ∃ G as ds, Same G H ∧ ArgsR K G H as vs ∧ R as ds ∧ ∀ p us G2 H2, Gr G H G2 H2 → H p = none → G2 p = none → H2 p = some (.dK us) → RpK G2 ds us → Q (.ref p) H2
section
variable {E : Ent} {δ δ' : List Sl} {ta tb te tc : TE} {tt tu : TT} {d d1 d2 : D} {Φ : Out → Prop} {u : TS}
theorem evK_call {R : List Sl → List (Key × D) → Prop} {t : TA} {as : List Sl} {ds : List (Key × D)} {XE : XK} (h : Ea E t δ as) (hR : R as ds) : EvK E (tCall (spK E.K R) [] XE t) δ ds := fun σ G H Q s k =>
  h σ G H _ s fun us G1 H1 g1 r1 => by
    rw [List.append_nil]
    exact ⟨G1, as, ds, g1.i, r1, hR, fun p vs G2 H2 g2 hp gp h2 r2 => k p vs G2 H2 (g1.trans g2) (g1.h.free hp) gp h2 r2⟩
theorem spK_run {K : PySem.W.Frag} {R : List Sl → List (Key × D) → Prop} {t : TS} {N : List Str} {vs : List V} {H : Hp} {Q : VK} {XE : XK} (hsp : spK K R vs H Q XE) (hn : vs.length ≤ N.length)
    (h : ∀ as d, R as d → ∀ E : Ent, E.K = K → Xs E t (argSl as (N.length - as.length)) fun o => o = .rk d) : t { nx := fun _ H' => Q .non H', rt := Q } (start N vs) H := by
  obtain ⟨G, as, d, i, r, hR, k⟩ := hsp
  refine h as d hR ⟨K, G, H⟩ rfl (start N vs) G H _ (st_start i r hn) fun o e => ?_
  subst e
  exact fun p us G' H' g hp gp h2 r => k p us G' H' g hp gp h2 r
theorem spK_len {K : PySem.W.Frag} {R : List Sl → List (Key × D) → Prop} {n : Nat} {vs : List V} {H : Hp} {Q : VK} {XE : XK} (hsp : spK K R vs H Q XE) (h : ∀ as d, R as d → as.length = n) : vs.length = n := by
  obtain ⟨G, as, d, i, r, hR, k⟩ := hsp
  rw [r.len, h as d hR]
theorem evK_new : EvK E tDNewK δ [] := fun σ G H Q s k p hp => k p [] G _ (Gr.side s.i (same_new hp)) hp (s.i.free hp) upd_same rfl
theorem xs_asgK {i : Nat} {ds : List (Key × D)} (h : EvK E te δ ds) (k : Φ (.nx (δ.set i (.od ds)))) : Xs E (tAsg te (gName i)) δ Φ := fun σ G H X s p => h σ G H _ s fun q vs G1 H1 g hp gp h2 r => p _ k _ G1 H1 g.g (s.setOd g i hp gp h2 r)
theorem q_asgK {i : Nat} {ds : List (Key × D)} (h : EvK E te δ ds) (k : Xs E u (δ.set i (.od ds)) Φ) : Xs E (tSeq (tAsg te (gName i)) u) δ Φ := xs_seq (xs_asgK h k)
/-- {a: x, b: y} -/
theorem evK_disp2 {tx ty : TE} {k1 k2 : Key} {dx dy : D} (ha : Ev E ta δ (kD k1)) (hx : Ev E tx δ dx) (hb : Ev E tb δ (kD k2)) (hy : Ev E ty δ dy) : EvK E (tDisp [(ta, tx), (tb, ty)]) δ (putD (putD [] k1 dx) k2 dy) := fun σ G H Q s k p hp => by
  have gp : G p = none := s.i.free hp
  have s0 : St E δ σ G (upd H p (.dK [])) := s.grow (Gr.side s.i (same_new hp))
  refine ha σ G _ _ s0 fun v1 G1 H1 g1 r1 => hx σ G1 H1 _ (s0.grow g1) fun w1 G2 H2 g2 q1 => ?_
  have g12 := g1.trans g2
  refine hb σ G2 H2 _ (s0.grow g12) fun v2 G3 H3 g3 r2 => ?_
  have g13 := g12.trans g3
  refine hy σ G3 H3 _ (s0.grow g13) fun w2 G4 H4 g4 q2 => ?_
  have g14 := g13.trans g4
  have h4 : H4 p = some (.dK []) := g14.h p _ upd_same
  have gp4 : G4 p = none := g14.n p (by rw [upd_same]; simp) gp
  have ek : ∀ (k : Key) (G : Hp) (v : V), Rp G (kD k) v → v = kV k := fun k G v h => by cases k <;> exact h
  have e1 := ek k1 _ _ r1
  have e2 := ek k2 _ _ r2
  subst e1 e2
  refine ⟨h4, [(k1, w1), (k2, w2)], rfl, by show 2 ≤ 15; decide, ?_⟩
  have rr : RpK G4 (putD (putD [] k1 dx) k2 dy) (mergeK [] [(k1, w1), (k2, w2)]) := (RpK.put (RpK.put (kvs := []) (ks := []) rfl k1 (Rp.mono ((g2.trans (g3.trans g4)).g |> fun z => (g3.g.trans g4.g)) _ _ q1)) k2 q2)
  refine k p _ G4 _ ⟨g14.g, fun a o h => ?_, fun a ha ga => ?_, same_mut g14.i gp4⟩ hp gp4 upd_same rr
  · have ne : a ≠ p := ne_of_none h hp
    rw [upd_ne ne]
    exact g14.h a o (by rw [upd_ne ne]; exact h)
  · refine g14.n a (fun z => ?_) ga
    have ne : a ≠ p := fun e => ha (by rw [e]; exact hp)
    rw [upd_ne ne] at z; exact ha z
/-- d.get(k, x) of an own dict -/
theorem ev_dget2 {n : Nat} {kvs : List (Key × D)} {k : Key} {dx : D} (h0 : δ[n]? = some (.od kvs)) (ha : Ev E ta δ (kD k)) (hx : Ev E tb δ dx) : Ev E (tDGet2 (tVar n) ta tb) δ ((valD kvs k).getD dx) := fun σ G H Q s c => by
  obtain ⟨p, ks, ho, h1, h2, h3, h4⟩ := s.atOd h0
  refine ⟨.ref p, ho, p, rfl, .inl ⟨ks, .inl h1⟩, ha σ G H _ s fun y G1 H1 g1 r1 => hx σ G1 H1 _ (s.grow g1) fun z G2 H2 g2 r2 => ?_⟩
  have g := g1.trans g2
  have ey : y = kV k := by cases k <;> exact r1
  subst ey
  refine ⟨valV ks k, DGet.k (g.h _ _ h1), ?_⟩
  rcases h2.val k with ⟨d', v', q1, q2, q3⟩ | ⟨q1, q2⟩
  · rw [q2]
    refine c v' G2 H2 g ?_
    rw [q1]
    exact Rp.mono g.g _ _ q3
  · rw [q2]
    refine c z G2 H2 g ?_
    rw [q1]
    exact r2
/-- d[k] = v of an own dict -/
theorem xs_dput {n : Nat} {kvs : List (Key × D)} {k : Key} (h0 : δ[n]? = some (.od kvs)) (hk : Ev E ta δ (kD k)) (hv : Ev E tb δ d) (hz : kvs.length < 100000) (c : Φ (.nx (δ.set n (.od (putD kvs k d))))) : Xs E (sDPut (tVar n) ta tb) δ Φ := fun σ G H X s q => by
  obtain ⟨p, ks, ho, h1, h2, h3, h4⟩ := s.atOd h0
  refine hv σ G H _ s fun v G1 H1 g1 r1 => ⟨.ref p, ho, hk σ G1 H1 _ (s.grow g1) fun y G2 H2 g2 r2 => ?_⟩
  have g := g1.trans g2
  have ey : y = kV k := by cases k <;> exact r2
  subst ey
  refine ⟨p, _, rfl, DPut.k (g.h _ _ h1) (by rw [h2.len]; exact Nat.lt_of_lt_of_le hz (by decide)), ?_⟩
  exact q _ c σ G2 _ g.g ((s.grow g).mutateD h0 ho ((h2.mono g.g).put k (Rp.mono g2.g _ _ r1)))
/-- an own dict may be shared from here on -/
theorem xs_shareD {i : Nat} {kvs : List (Key × D)} (o : δ[i]? = some (.od kvs)) (h : Xs E u (δ.set i (.d (dictD kvs))) Φ) : Xs E u δ Φ := fun σ G H X s p => by
  obtain ⟨o', ho⟩ := s.here o
  obtain ⟨F, q⟩ := s.rg
  obtain ⟨a, ks, e, h1, r⟩ := q.sl i _ o' o ho
  subst e
  have z := q.out i a (by rw [h1]; simp)
  have hp := q.in_ i a _ h1
  have sg : Same G (upd G a (.dK ks)) := same_new z.1
  refine h σ (upd G a (.dK ks)) H X ⟨s.g.trans sg, s.h, fun b hb gb => ?_, fun b u e => ?_, by simp [s.len], fun j => if j = i then none0 else F j, ?_⟩ fun o q => (p o q).mono sg
  · have ne : b ≠ a := fun e => hb (by rw [e]; exact z.2)
    rw [upd_ne ne]; exact s.n b hb gb
  · by_cases ne : b = a
    · subst ne; rw [upd_same] at e; cases e; exact hp
    · rw [upd_ne ne] at e; exact s.i b u e
  · refine ⟨fun j => ?_, fun j b hf => ?_, fun j k b ne hf => ?_, fun j t o q1 q2 => ?_⟩
    · by_cases e : j = i
      · simp only [e, if_true]; exact fun _ _ y => nomatch y
      · simp only [e, if_false]; exact q.in_ j
    · by_cases e : j = i
      · simp only [e, if_true] at hf; exact absurd rfl hf
      · simp only [e, if_false] at hf
        have y := q.out j b hf
        have ne : b ≠ a := fun w => hf (by rw [w]; exact q.ap i j a (Ne.symm e) (by rw [h1]; simp))
        exact ⟨by rw [upd_ne ne]; exact y.1, y.2⟩
    · by_cases e : j = i
      · simp only [e, if_true] at hf; exact absurd rfl hf
      · simp only [e, if_false] at hf
        by_cases e2 : k = i
        · simp only [e2, if_true]; rfl
        · simp only [e2, if_false]; exact q.ap j k b ne hf
    · by_cases e : j = i
      · subst e
        simp only [if_true]
        rw [List.getElem?_set] at q1
        simp only [if_true] at q1
        split at q1
        · cases q1
          rw [ho] at q2; cases q2
          exact ⟨_, rfl, a, ks, rfl, upd_same, rpD_of (r.mono sg)⟩
        · cases q1
      · simp only [e, if_false]
        rw [List.getElem?_set_ne (Ne.symm e)] at q1
        exact (q.sl j t o q1 q2).mono sg
/-- k in d, d among the data -/
theorem ev_din {kvs : List (Key × D)} {k : Key} (ha : Ev E ta δ (kD k)) (hb : Ev E tb δ (dictD kvs)) : Ev E (tDIn ta tb) δ (.bool (valD kvs k).isSome) := fun σ G H Q s c =>
  ha σ G H _ s fun y G1 H1 g1 r1 => hb σ G1 H1 _ (s.grow g1) fun x G2 H2 g2 r2 => by
    obtain ⟨a, ks, e, h1, h2⟩ := rp_dict r2
    subst e
    have ey : y = kV k := by cases k <;> exact r1
    subst ey
    refine ⟨a, valV ks k, rfl, DGet.k (g2.i _ _ h1), ?_⟩
    have e : (valV ks k).isSome = (valD kvs k).isSome := by
      rcases h2.val k with ⟨d', v', q1, q2, q3⟩ | ⟨q1, q2⟩
      · rw [q1, q2]; rfl
      · rw [q1, q2]; rfl
    rw [e]
    exact c _ G2 H2 (g1.trans g2) rfl

/-! ### a dict that is walked stands locked -/
def FzP (kvs : List (Key × D)) : Hp → Hp → V → Prop := fun G F v => ∃ p o ks, v = .ref p ∧ F p = some (.frz o (.dK ks)) ∧ RpK G kvs ks
abbrev fz (kvs : List (Key × D)) : Sl := .ob (FzP kvs)
theorem St.atFz {σ : L2.St} {G H : Hp} (s : St E δ σ G H) {i : Nat} {kvs : List (Key × D)} (h : δ[i]? = some (fz kvs)) : ∃ p o ks, σ[i]? = some (some (.ref p)) ∧ H p = some (.frz o (.dK ks)) ∧ RpK G kvs ks ∧ G p = none := by
  obtain ⟨o, ho⟩ := s.here h
  obtain ⟨F, q⟩ := s.rg
  obtain ⟨v, e, P⟩ := q.sl i _ o h ho
  subst e
  obtain ⟨p, od, ks, e, h1, r⟩ := P G (Same.refl G)
  subst e
  exact ⟨p, od, ks, ho, q.in_ i p _ h1, r, (q.out i p (by rw [h1]; simp)).1⟩
theorem evF_lock {i : Nat} {kvs : List (Key × D)} {ds : List D} (o : δ[i]? = some (.od kvs)) (h : EvF E te (δ.set i (fz kvs)) ds) : EvF E (tLockE te) δ ds := fun σ G H Q s k => by
  obtain ⟨p, ks, ho, h1, h2, h3, h4⟩ := s.atOd o
  refine ⟨p, .dK ks, h1, trivial, fun od => ?_⟩
  have s' : St E (δ.set i (fz kvs)) σ G (upd H p (.frz od (.dK ks))) := s.change (.od kvs) o ho (fun F q => by
    obtain ⟨p2, vs, e, q1, _⟩ := q
    cases e
    rw [q1]; simp) fun F q => ⟨.ref p, rfl, fun G' e => ⟨p, od, ks, rfl, upd_same, h2.mono e⟩⟩
  refine h σ G _ _ s' fun q vs G2 H2 g hq gq hq2 r => ?_
  have hp2 : H2 p = some (.frz od (.dK ks)) := g.h p _ upd_same
  have gp2 : G2 p = none := g.n p (by rw [upd_same]; simp) h3
  have nq : q ≠ p := fun e => by rw [e, upd_same] at hq; cases hq
  refine ⟨hp2, k q vs G2 _ ⟨g.g, fun a o' e => ?_, fun a ha ga => ?_, same_mut g.i gp2⟩ (by rw [upd_ne nq] at hq; exact hq) gq (by rw [upd_ne nq]; exact hq2) r⟩
  · by_cases ne : a = p
    · subst ne; rw [h1] at e; cases e; exact upd_same
    · rw [upd_ne ne]
      exact g.h a o' (by rw [upd_ne ne]; exact e)
  · by_cases ne : a = p
    · subst ne; exact gp2
    · exact g.n a (by rw [upd_ne ne]; exact ha) ga
theorem ei_keys {i : Nat} {kvs : List (Key × D)} (h0 : δ[i]? = some (fz kvs)) : EvIc E (iKeys (tVar i)) δ (kvs.map fun kv => kD kv.1) := fun σ G H R s k => by
  obtain ⟨p, od, ks, ho, h1, h2, h3⟩ := s.atFz h0
  refine ⟨.ref p, ho, p, od, rfl, .inl ⟨ks, h1, k _ G H (Gr.refl s.i) ?_⟩⟩
  unfold WalkC
  have hl : (kvs.map fun kv => kD kv.1).length = ks.length := by rw [List.length_map, h2.len]
  rw [hl]
  refine (walk_keys (d := p) (o := od) (kvs := ks)).mono (fun H' e => e p _ h1) fun j H' x H2 hj e y G' e1 e2 => ?_
  obtain ⟨eH, kk, vv, q1, q2⟩ := y
  subst eH q2
  obtain ⟨dd, q3, _⟩ := h2.get q1
  exact ⟨G', kD kk, by rw [List.getElem?_map, q3]; rfl, Gr.refl e2, by cases kk <;> rfl⟩
/-- d[k], d locked -/
theorem ev_dgetFz {n : Nat} {kvs : List (Key × D)} {k : Key} (h0 : δ[n]? = some (fz kvs)) (ha : Ev E ta δ (kD k)) (h : valD kvs k = some d) : Ev E (tDGet (tVar n) ta) δ d := fun σ G H Q s c => by
  obtain ⟨p, od, ks, ho, h1, h2, h3⟩ := s.atFz h0
  refine ⟨.ref p, ho, ha σ G H _ s fun y G1 H1 g1 r1 => ?_⟩
  have ey : y = kV k := by cases k <;> exact r1
  subst ey
  rcases h2.val k with ⟨d', v', q1, q2, q3⟩ | ⟨q1, q2⟩
  · rw [h] at q1; cases q1
    exact ⟨p, v', rfl, .inl ⟨ks, k, .inr ⟨od, g1.h _ _ h1⟩, rfl, q2.symm⟩, c v' G1 H1 g1 (Rp.mono g1.g _ _ q3)⟩
  · rw [h] at q1; cases q1
end
end PL

/-! PTop: a def of the row keeps its promise; a call by the promise; the end. -/
namespace PL
open PySem PySem.Spec PyProof.Rows L2
/-- a def that may be called by its name -/
structure Cl (P : Program) (w : World) (K : PySem.W.Frag) (mg : Str → Option Value) (base : Heap) (k : Nat) (x : Str) (sp : Sp) : Prop where
  ex : ∃ (f : Addr) (fd : FuncData) (ps : List Str), FnOk P w K mg base CX0 k f fd ps sp ∧ mg x = some (.ref f) ∧ PySem.W.keepIn K (.ref f) = true ∧ Binds K fd ps []
section
variable {X : Cx} {k j : Nat} {sp : Sp} {x : Str} {p pos : Pos} {e : Expr} {es : List Expr} {t : TA}
theorem pe_cl (c : Cl X.prog X.w X.K X.mg X.base k x sp) (hr : Room j X.A) (hk : k ≤ j) (hg : Gl X x) (ha : PA X (e :: es) t)
    (hdb : (x == ("__debug__" : Str)) = false := by decide) (he : starEach (e :: es) X.env = (false, eval e X.env) :: starEach es X.env := by rfl) (hpl : (backTo pos (starEach es X.env)).any (·.1) = false := by rfl) :
    PE X (.Call (.Name x p) (e :: es) [] pos) (tCall sp [] E0 t) := by
  obtain ⟨f, fd, ps, F, hm, kp, b⟩ := c.ex
  exact pe_call F (hr.mono hk) hg hm kp b .nil pass0 ha hdb he hpl
end
/-- a def of the row stands at its name -/
structure Fd (K : PySem.W.Frag) (mg : Str → Option Value) (x : Str) (st : Stmt) : Prop where
  ex : ∃ (f : Addr) (fd : FuncData), Fun K x x st f fd ∧ mg x = some (.ref f)
theorem fd_mk {K : PySem.W.Frag} {h : Heap} {mg : Str → Option Value} {x : Str} {st : Stmt} {f : Addr} {oc : Value} {od an : Option Addr} {osl : Array (Option Value)} {kV doc pm cdv ct : Value} (X : K.In h) (G : h.Ns mainGlobals mg)
    (a : PySem.W.nsIn K mainGlobals x = some (some (.ref f))) (l : K.lookup f = some ⟨oc, od, .func (PySem.W.fnOf x x (defArgs st) (defBody st) (defScope st) .none kV doc pm an cdv ct), osl⟩)
    (c : PySem.W.codeIn K cdv x = true) (kp : PySem.W.keepIn K (.ref f) = true) : Fd K mg x st := ⟨f, _, fun_mk l c kp, PySem.W.mg_of X G a⟩
section
variable {P : Program} {w : World} {K : PySem.W.Frag} {mg : Str → Option Value} {base : Heap}
theorem cl_of {x : Str} {st : Stmt} {N ps : List Str} {k : Nat} {sp : Sp} (F : Fd K mg x st) (S : FnScope N ps (defScope st)) (len : ∀ vs H Q E, sp vs H Q E → vs.length = ps.length)
    (hb : ∀ (kV doc pm : Value) (an : Option Addr) (cdv ct : Value) (us : List Value), us.length = ps.length → bindArgs (PySem.W.fnOf x x (defArgs st) (defBody st) (defScope st) .none kV doc pm an cdv ct) ⟨us, []⟩ = pure (ps.zip us))
    (hbody : ∀ (f : Addr) (cdv : Value) (A : Around) (outer : List Env) (s : Shared) (H : Hp) (vs : List V) (Q : VK) (E : XK), Room k (A.deeper (envOfC x (defScope st) s.heap.objs.size f cdv)) → sp vs H Q E →
      ∃ t, PSs (cxOf CX0 P w K mg base N x (defScope st) f cdv A outer s H E).nox (defBody st) t ∧ t { nx := fun _ H' => Q .non H', rt := Q } (start N vs) H) : Cl P w K mg base (k + 1) x sp := by
  obtain ⟨f, fd, fn, m⟩ := F.ex
  exact ⟨f, fd, ps, fn.ok S len fun cdv A outer s H vs Q E hr hs => hbody f cdv A outer s H vs Q E hr hs, m, fn.kp, fn.binds hb⟩
/-- a def that is never called so -/
theorem cl_false {x : Str} {st : Stmt} (F : Fd K mg x st) (n : Nat) (ps : List Str) (hb : ∀ (kV doc pm : Value) (an : Option Addr) (cdv ct : Value) (us : List Value), us.length = ps.length → bindArgs (PySem.W.fnOf x x (defArgs st) (defBody st) (defScope st) .none kV doc pm an cdv ct) ⟨us, []⟩ = pure (ps.zip us)) :
    Cl P w K mg base n x (fun _ _ _ _ => False) := by
  obtain ⟨f, fd, fn, m⟩ := F.ex
  exact ⟨f, fd, ps, ⟨fun _ _ _ _ h => h.elim, fun _ _ _ _ _ _ _ _ _ _ _ _ _ h => h.elim⟩, m, fn.kp, fn.binds hb⟩
end
end PL

/-! PMore: pairs, the line that walks an expression. -/
namespace PL
open PySem L2
section
variable {E : Ent} {δ δ' : List Sl} {ta tb te tc : TE} {tt tu : TT} {d d1 d2 a b : D}
theorem atI_0 {α : Type} {a : α} {r : List α} : atI (a :: r) 0 = some a := atI_nat (j := 0) rfl
theorem atI_1 {α : Type} {a b : α} {r : List α} : atI (a :: b :: r) 1 = some b := atI_nat (j := 1) rfl
theorem ev_ixT0 {r : List D} (ha : Ev E ta δ (.tuple (a :: r))) : Ev E (tOp (rIxT E.K) ta (tC (.int 0))) δ a := ev_ixT ha ev_int atI_0
theorem ev_ixT1 {r : List D} (ha : Ev E ta δ (.tuple (a :: b :: r))) : Ev E (tOp (rIxT E.K) ta (tC (.int 1))) δ b := ev_ixT ha ev_int atI_1
end

/-! ### isinstance by the datum -/
def isIntD : D → Bool
  | .bool _ => true
  | .int _ => true
  | _ => false
theorem kit_int : ∀ x : D, kitB (tyD x) "int" = some (isIntD x)
  | .none => (by decide +kernel : kitB "NoneType" "int" = some false)
  | .bool _ => (by decide +kernel : kitB "bool" "int" = some true)
  | .int _ => (by decide +kernel : kitB "int" "int" = some true)
  | .str _ => (by decide +kernel : kitB "str" "int" = some false)
  | .list _ => (by decide +kernel : kitB "list" "int" = some false)
  | .tuple _ => (by decide +kernel : kitB "tuple" "int" = some false)
  | .dict _ => (by decide +kernel : kitB "dict" "int" = some false)
def isBoolD : D → Bool
  | .bool _ => true
  | _ => false
theorem kit_bool : ∀ x : D, kitB (tyD x) "bool" = some (isBoolD x)
  | .none => (by decide +kernel : kitB "NoneType" "bool" = some false)
  | .bool _ => (by decide +kernel : kitB "bool" "bool" = some true)
  | .int _ => (by decide +kernel : kitB "int" "bool" = some false)
  | .str _ => (by decide +kernel : kitB "str" "bool" = some false)
  | .list _ => (by decide +kernel : kitB "list" "bool" = some false)
  | .tuple _ => (by decide +kernel : kitB "tuple" "bool" = some false)
  | .dict _ => (by decide +kernel : kitB "dict" "bool" = some false)
def isTupD : D → Bool
  | .tuple _ => true
  | _ => false
theorem kit_tuple : ∀ x : D, kitB (tyD x) "tuple" = some (isTupD x)
  | .none => (by decide +kernel : kitB "NoneType" "tuple" = some false)
  | .bool _ => (by decide +kernel : kitB "bool" "tuple" = some false)
  | .int _ => (by decide +kernel : kitB "int" "tuple" = some false)
  | .str _ => (by decide +kernel : kitB "str" "tuple" = some false)
  | .list _ => (by decide +kernel : kitB "list" "tuple" = some false)
  | .tuple _ => (by decide +kernel : kitB "tuple" "tuple" = some true)
  | .dict _ => (by decide +kernel : kitB "dict" "tuple" = some false)
def isListD : D → Bool
  | .list _ => true
  | _ => false
theorem kit_list : ∀ x : D, kitB (tyD x) "list" = some (isListD x)
  | .none => (by decide +kernel : kitB "NoneType" "list" = some false)
  | .bool _ => (by decide +kernel : kitB "bool" "list" = some false)
  | .int _ => (by decide +kernel : kitB "int" "list" = some false)
  | .str _ => (by decide +kernel : kitB "str" "list" = some false)
  | .list _ => (by decide +kernel : kitB "list" "list" = some true)
  | .tuple _ => (by decide +kernel : kitB "tuple" "list" = some false)
  | .dict _ => (by decide +kernel : kitB "dict" "list" = some false)
def isStrD : D → Bool
  | .str _ => true
  | _ => false
theorem kit_str : ∀ x : D, kitB (tyD x) "str" = some (isStrD x)
  | .none => (by decide +kernel : kitB "NoneType" "str" = some false)
  | .bool _ => (by decide +kernel : kitB "bool" "str" = some false)
  | .int _ => (by decide +kernel : kitB "int" "str" = some false)
  | .str _ => (by decide +kernel : kitB "str" "str" = some true)
  | .list _ => (by decide +kernel : kitB "list" "str" = some false)
  | .tuple _ => (by decide +kernel : kitB "tuple" "str" = some false)
  | .dict _ => (by decide +kernel : kitB "dict" "str" = some false)
section
variable {E : Ent} {δ : List Sl} {ta : TE} {x : D}
theorem ev_isi_int (ha : Ev E ta δ x) : Ev E (tCB (rIsi E.K) (tCons ta (tCons (tC (.ty "int")) tNil))) δ (.bool (isIntD x)) := ev_isi ha (kit_int x)
theorem ev_isi_bool (ha : Ev E ta δ x) : Ev E (tCB (rIsi E.K) (tCons ta (tCons (tC (.ty "bool")) tNil))) δ (.bool (isBoolD x)) := ev_isi ha (kit_bool x)
theorem ev_isi_tuple (ha : Ev E ta δ x) : Ev E (tCB (rIsi E.K) (tCons ta (tCons (tC (.ty "tuple")) tNil))) δ (.bool (isTupD x)) := ev_isi ha (kit_tuple x)
theorem ev_isi_list (ha : Ev E ta δ x) : Ev E (tCB (rIsi E.K) (tCons ta (tCons (tC (.ty "list")) tNil))) δ (.bool (isListD x)) := ev_isi ha (kit_list x)
theorem ev_isi_str (ha : Ev E ta δ x) : Ev E (tCB (rIsi E.K) (tCons ta (tCons (tC (.ty "str")) tNil))) δ (.bool (isStrD x)) := ev_isi ha (kit_str x)
theorem ev_isi_tl (ha : Ev E ta δ x) : Ev E (tCB (rIsiT E.K) (tCons ta (tCons (tTup (tCons (tC (.ty "tuple")) (tCons (tC (.ty "list")) tNil))) tNil))) δ (.bool (isTupD x || isListD x)) := ev_isi2 ha (kit_tuple x) (kit_list x)
end

/-! ### what the stones are -/
def stD (s : Int × Int) : D := .tuple [.int s.1, .int s.2]
def stonesD (ss : List (Int × Int)) : D := .list (ss.map stD)
def intsL (ns : List Int) : D := .list (ns.map .int)
def okN (i : Int) : Prop := 0 ≤ i ∧ i ≤ 999999
structure OkS (ss : List (Int × Int)) : Prop where
  len : ss.length ≤ 60
  mem : ∀ s ∈ ss, okN s.1 ∧ okN s.2
section
variable {E : Ent} {δ δ' : List Sl} {ta tb te tc : TE} {s : Int × Int}
theorem ev_st0 (ha : Ev E ta δ (stD s)) : Ev E (tOp (rIxT E.K) ta (tC (.int 0))) δ (.int s.1) := ev_ixT0 ha
theorem ev_st1 (ha : Ev E ta δ (stD s)) : Ev E (tOp (rIxT E.K) ta (tC (.int 1))) δ (.int s.2) := ev_ixT1 ha
end
/-! ### data that == tells apart -/
theorem lay_ints : ∀ ns : List Int, PyData.canLayAll0 (ns.map .int) = true
  | [] => rfl
  | n :: ns => by
    rw [List.map_cons, PyData.canLayAll0, lay_ints ns]
    simp [PyData.canLay0]
theorem dep_ints : ∀ ns : List Int, PyData.depthAll (ns.map .int) = 0
  | [] => rfl
  | n :: ns => by
    rw [List.map_cons, PyData.depthAll, dep_ints ns]
    simp [PyData.depth]
theorem shp_of {d : D} (h : d.canLay0 = true) (h2 : d.depth ≤ 64) : SeqAt.shaped d = true := by
  unfold SeqAt.shaped
  rw [h, decide_eq_true h2]; rfl
theorem shp_ints (ns : List Int) : SeqAt.shaped (.list (ns.map .int)) = true := shp_of (by rw [PyData.canLay0]; exact lay_ints ns) (by rw [PyData.depth, dep_ints]; decide)
theorem shp_nil : SeqAt.shaped (.list []) = true := shp_ints []
theorem lay_all {f : α → D} (h : ∀ a, (f a).canLay0 = true) : ∀ l : List α, PyData.canLayAll0 (l.map f) = true
  | [] => rfl
  | a :: l => by rw [List.map_cons, PyData.canLayAll0, lay_all h l, h a]; rfl
theorem dep_all {f : α → D} {k : Nat} (h : ∀ a, (f a).depth ≤ k) : ∀ l : List α, PyData.depthAll (l.map f) ≤ k
  | [] => Nat.zero_le _
  | a :: l => by
    rw [List.map_cons, PyData.depthAll]
    have := dep_all h l
    have := h a
    omega
end PL

/-! PSort: d.update(e), sorted(lists of ints): what the hand layer lacks. -/
namespace PL
open PySem PySem.Spec PyProof.Rows L2
/-! ### d.update(e) -/
def tDUpd (K : PySem.W.Frag) (td ty : TE) : TE := fun σ H Q => td σ H fun x H1 => ∃ a, x = .ref a ∧ IsD H1 a ∧ ty σ H1 fun y H2 => ∃ b kvs more, y = .ref b ∧ a ≠ b ∧ H2 a = some (.dK kvs) ∧ Rd H2 b (.dK more) ∧ kvs.length + more.length ≤ sizeLine ∧ Q .non (upd H2 a (.dK (mergeK kvs more)))
theorem pe_dupd {X : Cx} {o e : Expr} {apos cpos : Pos} {td ty : TE} (ho : PE X o td) (he : PE X e ty) (m : M1 X o "update" apos e cpos) : PE X (.Call (.Attribute o "update" apos) [e] [] cpos) (tDUpd X.K td ty) := by
  refine ⟨fun pins s σ H Q I h => ?_⟩
  refine wpAny_Call_method m.base m.few m.line PySem.F.plainAttrs_dict PySem.F.slot_dict_update PySem.F.type_dict_update (thn (ho.run pins s σ H _ I h) fun u s1 ⟨x, H1, I1, rx, a, ex, d, q1⟩ => ?_)
  subst ex
  obtain rfl : u = Value.ref a := rx
  obtain ⟨t1, t2, _⟩ := isD_at I1 d
  refine ⟨t1, t2, ?_⟩
  rw [m.trees]
  refine Calls.callWith_builtin rfl (Calls.evalArgs_plain (Calls.spliced_cons (thn (he.run pins s1 σ H1 _ I1 q1) fun iv s2 ⟨y, H2, I2, ry, b, kvs, more, ey, ne, ea, eb, hz, q2⟩ => Calls.spliced_nil ?_)))
  subst ey
  obtain rfl : iv = Value.ref b := ry
  obtain ⟨z, hd, vs, rel, dd⟩ := dk_of I2.hok ea
  obtain ⟨z2, hd2, vs2, rel2, dd2⟩ := dk_rd I2.hok eb
  refine call_meetsIn PySem.F.slot_dict_update dd.typeIs PySem.F.entry_dict_update (PySem.F.args_dict_update_2 _ _) (meets_dict_update (mixKind X.prog X.w) a b ne hd2)
    ⟨vs, vs2, dd, dd2, by rw [← rel.length, ← rel2.length]; exact hz, fun h' dd' _ hs => ⟨.non, _, ?_, rfl, q2⟩⟩
  have he : ∃ q, h'.get? a = some q := let ⟨q, _, _, hq, _⟩ := dd'; ⟨q, hq⟩
  have hz2 : (mergeK kvs more).length ≤ sizeLine := Nat.le_trans (length_mergeK more kvs) hz
  exact d_write I2 (by rw [ea]; exact True.intro) hs he (dk_new hz2 hd (rel2.merge rel) dd')

/-! ### sorted(lists of ints) -/
theorem first_lex : ∀ (ns ms : List Int) (i : Nat) (e r : Nat → Bool), (∀ j, e (i + j) = decide (ns.getD j 0 = ms.getD j 0)) → (∀ j, r (i + j) = decide (ns.getD j 0 < ms.getD j 0)) →
    PySem.SeqAt.firstLt e r (decide (ns.length < ms.length)) (List.range' i (min ns.length ms.length)) = HT.lexLt ns ms
  | [], [], i, e, r, he, hr => rfl
  | [], m :: ms, i, e, r, he, hr => by simp [PySem.SeqAt.firstLt, HT.lexLt_nil_cons]
  | n :: ns, [], i, e, r, he, hr => by simp [PySem.SeqAt.firstLt, HT.lexLt_cons_nil]
  | n :: ns, m :: ms, i, e, r, he, hr => by
    have e0 := he 0
    have r0 := hr 0
    simp only [Nat.add_zero, List.getD_cons_zero] at e0 r0
    have ih := first_lex ns ms (i + 1) e r (fun j => by have := he (j + 1); simpa [Nat.add_assoc, Nat.add_comm 1 j] using this) (fun j => by have := hr (j + 1); simpa [Nat.add_assoc, Nat.add_comm 1 j] using this)
    have em : min (n :: ns).length (m :: ms).length = min ns.length ms.length + 1 := by simp only [List.length_cons]; omega
    have el : decide ((n :: ns).length < (m :: ms).length) = decide (ns.length < ms.length) := by simp
    rw [em, el, List.range'_succ, HT.lexLt_cons]
    by_cases c : n = m
    · rw [PySem.SeqAt.firstLt_yes (by rw [e0, decide_eq_true c]), if_pos c, ih]
    · rw [PySem.SeqAt.firstLt_no (by rw [e0, decide_eq_false c]), if_neg c, r0]
/-- v is a list of these ints -/
def IsLI (h : Heap) (v : Value) (ns : List Int) : Prop := ∃ (a : Addr) (its : List Value), v = .ref a ∧ h.IsList a its.toArray ∧ IntsAre its ns
theorem IsLI.keeps {h h' : Heap} {v : Value} {ns : List Int} (x : IsLI h v ns) (k : ∀ b o, v = .ref b → h.get? b = some o → h'.get? b = some o) : IsLI h' v ns := by
  obtain ⟨a, its, e, l, i⟩ := x
  exact ⟨a, its, e, l.at fun o z => k _ _ e z, i⟩
section
variable {prog : Program} {w : World} {A : Around} {E : Value → Shared → Prop} {s : Shared}
theorem lt_li {v u : Value} {ns ms : List Int} {Q : Bool → Shared → Prop} (hu : A.units < cLine) (hv : IsLI s.heap v ns) (hw : IsLI s.heap u ms) (h : Q (HT.lexLt ns ms) s) : wpAny (model prog w) A (keyLt' oneType' v u) Q E s := by
  obtain ⟨a, its, rfl, la, ia⟩ := hv
  obtain ⟨b, its2, rfl, lb, ib⟩ := hw
  obtain ⟨o, ho, hc, n, hd⟩ := id la
  have e1 : its.toArray.size = ns.length := by rw [List.size_toArray]; exact ia.length
  have e2 : its2.toArray.size = ms.length := by rw [List.size_toArray]; exact ib.length
  have at1 : ∀ j (h1 : j < its.toArray.size), ∃ t, its.toArray[j] = .int (ns.getD j 0) t := fun j h1 => PyProof.Rows.IntsAre.int_at ia _ _ (by simp at h1; simp [h1])
  have at2 : ∀ j (h1 : j < its2.toArray.size), ∃ t, its2.toArray[j] = .int (ms.getD j 0) t := fun j h1 => PyProof.Rows.IntsAre.int_at ib _ _ (by simp at h1; simp [h1])
  rw [keyLt'_oneType, oneLt'_eq]
  simp only [if_true]
  refine wpAny_bind (wpAny_cRoomFor hu ?_)
  refine wpAny_bind (wpAny_callSpecialIfBound?_slot (T := "list") ⟨o, ho, hc⟩ F.slot_list_lt (PySem.SeqAt.call_list_lt (e := fun j => decide (ns.getD j 0 = ms.getD j 0)) (r := fun j => decide (ns.getD j 0 < ms.getD j 0)) la lb (fun j h1 h2 => ?_) (fun j h1 h2 _ => ?_) ?_))
  · obtain ⟨t, et⟩ := at1 j h1
    obtain ⟨t', et'⟩ := at2 j h2
    rw [et, et']
    have z : (ns.getD j 0 == ms.getD j 0) = decide (ns.getD j 0 = ms.getD j 0) := by
      by_cases q : ns.getD j 0 = ms.getD j 0
      · rw [decide_eq_true q]; exact beq_iff_eq.mpr q
      · rw [decide_eq_false q]; exact beq_eq_false_iff_ne.mpr q
    rw [← z]
    exact PySem.SeqAt.EqAt.int_int _ _ _ _
  · obtain ⟨t, et⟩ := at1 j h1
    obtain ⟨t', et'⟩ := at2 j h2
    rw [et, et']
    exact fun prog w E Q hq => PyProof.Rows.lt_int hq
  · rw [e1, e2, List.range_eq_range', first_lex ns ms 0 _ _ (fun j => by rw [Nat.zero_add]) (fun j => by rw [Nat.zero_add])]
    exact wpAny_truthy_bool h
theorem li_sortable {a : Addr} {vs : List Value} {k : Value → List Int} (h2 : 2 ≤ vs.length) (hu : A.units < cLine) (hv : ∀ v ∈ vs, IsLI s.heap v (k v)) (ha : ∀ v ∈ vs, v ≠ .ref a) :
    SrtO.SortableO prog w A s a vs fun v u => HT.lexLt (k v) (k u) := by
  intro h' keep
  have hv' : ∀ v ∈ vs, IsLI h' v (k v) := fun v hm => (hv v hm).keeps fun b o e g => keep b o (fun z => ha v hm (by rw [e, z])) g
  refine ⟨oneType', fun Q E hq => ?_, fun p q hp hq => lt_li (s := { s with heap := h' }) (Q := fun r s' => s' = { s with heap := h' } ∧ r = HT.lexLt (k p.1) (k q.1)) (E := fun _ _ => False) hu (hv' p.1 hp) (hv' q.1 hq) ⟨rfl, rfl⟩⟩
  refine PySem.W.kas_kind (s := { s with heap := h' }) (T := .type "list") h2 (fun v hm => ?_) (by rfl) (by rfl) hq
  obtain ⟨b, its, rfl, l, _⟩ := hv' v hm
  obtain ⟨⟨c, dd, dat, sl⟩, ho, hc, _⟩ := l
  simp only at hc
  subst hc
  exact (PySem.W.Looks.ld ho).andThen .now
end
/-- sorted(xs), lists of ints -/
def rSortedL (K : PySem.W.Frag) : List V → Hp → VK → Prop := fun vs H Q => ∃ (a : Addr) (ts : List Addr) (k : Addr → List Int), vs = [V.ref a] ∧ SqL K H a (ts.map V.ref) ∧ (∀ t ∈ ts, H t = some (.lst ((k t).map V.int))) ∧
  ∀ (ts' : List Addr) (p : Addr), ts'.Perm ts → ts'.Pairwise (fun p q => HT.lexLt (k q) (k p) = false) → H p = none → Q (.ref p) (upd H p (.lst (ts'.map V.ref)))
theorem cr_sortedL {X : Cx} {j : Nat} (hr : Room j X.A) : CallR X (.builtin "sorted") (rSortedL X.K) := by
  intro pins s σ H vs us Q I r h
  obtain ⟨a, ts, k, rfl, hs, hN, q⟩ := h
  obtain ⟨its, rv, hl, hz⟩ := I.list hs
  rw [Vals.ref1 r]
  have ei := nts_of rv
  have hv : ∀ u ∈ its, IsLI s.heap u (k (adO u)) := fun u hm => by
    rw [ei] at hm
    obtain ⟨t, ht, rfl⟩ := List.mem_map.mp hm
    obtain ⟨_, its2, n, rv2, hob⟩ := I.hok t _ (hN t ht)
    exact ⟨t, its2, rfl, ⟨_, hob, rfl, _, rfl⟩, rv2.ints⟩
  have hu := hr.units
  refine SrtO.sorted_ord (NtL.swo_lexL fun u => k (adO u)) hl.isList (by rw [← rv.length]; exact hz) (fun h2 h₁ a' ha' kk => li_sortable h2 (by simp only [Around.in1_units]; omega) (fun u hm => (hv u hm).keeps fun b o _ e => (kk b o e).2) fun u hm z => ?_) fun out h1 h2 => ?_
  · obtain ⟨b, its2, e, l, _⟩ := hv u hm
    obtain ⟨o, ho, _⟩ := l
    rw [e] at z
    exact (kk b o ho).1 (Value.ref.inj z)
  obtain ⟨ep, he'⟩ := PyProof.Rows.sortedAll_at s.heap its out.toArray
  have eo : out = (out.map adO).map Value.ref := ref_map fun u hm => by
    have hm' : u ∈ its := h2.perm.mem_iff.mp hm
    rw [ei] at hm'
    obtain ⟨t, _, e⟩ := List.mem_map.mp hm'
    exact ⟨t, e.symm⟩
  have hp : (out.map adO).Perm ts := by
    have p1 := h2.perm.map adO
    rw [ei, ad_map] at p1
    exact p1
  have hs : (out.map adO).Pairwise (fun p q => HT.lexLt (k q) (k p) = false) := List.pairwise_map.mpr (h1.imp fun {x y} z => z)
  have hlen : ((out.map adO).map V.ref).length ≤ sizeLine := by
    rw [List.length_map, hp.length_eq]
    rw [List.length_map] at hz
    exact hz
  have ov : Vals ((out.map adO).map V.ref) out := by
    have := of_nts (out.map adO)
    rw [← eo] at this
    exact this
  exact ⟨.ref _, upd H (s.heap.objs.size + 1) (.lst ((out.map adO).map V.ref)), I.laid (t' := s.toks) (fun _ _ => PyProof.Rows.sortedAll_old) (Nat.le_succ _) ⟨hlen, out, ep, ov, he'⟩, rfl, q _ _ hp hs (I.hok.fresh (Nat.le_succ _))⟩
end PL

/-! PFresh: things made anew in a call: own trees of data, lists whose items are new as well, dict.update, list.remove. -/
namespace PL
open PySem L2

/-- the part of H that does not stand in A -/
def out (A H : Hp) : Hp := fun a => match A a with
  | none => H a
  | some _ => none
theorem out_none {A H : Hp} {a : Addr} (h : A a = none) : out A H a = H a := by unfold out; rw [h]
theorem out_ne {A H : Hp} {a : Addr} (h : out A H a ≠ none) : A a = none := by
  unfold out at h
  cases e : A a with
  | none => rfl
  | some o => rw [e] at h; exact absurd rfl h
theorem out_some {A H : Hp} {a : Addr} {o : HO} (h : out A H a = some o) : A a = none ∧ H a = some o := by
  have z := out_ne (A := A) (H := H) (a := a) (by rw [h]; simp)
  rw [out_none z] at h
  exact ⟨z, h⟩
theorem out_mono {A H H2 : Hp} (e : Same H H2) : Same (out A H) (out A H2) := fun a o h => by
  obtain ⟨z, h⟩ := out_some h
  rw [out_none z]; exact e a o h
theorem out_in {A H : Hp} : Same (out A H) H := fun a o h => (out_some h).2
/-- two heaps as one -/
def jn (A F : Hp) : Hp := fun a => match A a with
  | none => F a
  | some o => some o
theorem jn_l {A F : Hp} : Same A (jn A F) := fun a o h => by unfold jn; rw [h]
theorem jn_r {A F : Hp} (h : ∀ a, F a ≠ none → A a = none) : Same F (jn A F) := fun a o e => by
  unfold jn
  rw [h a (by rw [e]; simp)]
  exact e
theorem jn_some {A F : Hp} {a : Addr} {o : HO} (h : jn A F a = some o) : A a = some o ∨ (A a = none ∧ F a = some o) := by
  unfold jn at h
  cases e : A a with
  | none => rw [e] at h; exact .inr ⟨rfl, h⟩
  | some u => rw [e] at h; exact .inl h
theorem jn_none {A F : Hp} {a : Addr} (h : A a = none) (h2 : F a = none) : jn A F a = none := by unfold jn; rw [h]; exact h2
theorem jn_in {A F H : Hp} (h : Same A H) (h2 : Same F H) : Same (jn A F) H := fun a o e => by
  rcases jn_some e with z | ⟨_, z⟩
  · exact h a o z
  · exact h2 a o z

/-- a value that P holds of -/
def EvP (E : Ent) (te : TE) (δ : List Sl) (P : Hp → V → Prop) : Prop := ∀ σ G H Q, St E δ σ G H → (∀ v G2 H2, Gr G H G2 H2 → P G2 v → Q v H2) → te σ H Q
/-- a datum made of nothing that stood at the entry -/
def fr (E : Ent) (d : D) : Hp → V → Prop := fun G v => Rp (out E.H G) d v
theorem fr_mono {E : Ent} {d : D} {G G2 : Hp} {v : V} (e : Same G G2) (h : fr E d G v) : fr E d G2 v := Rp.mono (out_mono e) _ _ h
/-- the values of a list -/
def Par (G : Hp) : List (Hp → V → Prop) → List V → Prop
  | [], vs => vs = []
  | P :: Ps, vs => ∃ v r, vs = v :: r ∧ P G v ∧ Par G Ps r
def Mon (P : Hp → V → Prop) : Prop := ∀ G G2 v, Same G G2 → P G v → P G2 v
theorem Par.mono {G G2 : Hp} (e : Same G G2) : ∀ {Ps : List (Hp → V → Prop)} {vs : List V}, (∀ P ∈ Ps, Mon P) → Par G Ps vs → Par G2 Ps vs
  | [], _, _, h => h
  | P :: Ps, _, m, ⟨v, r, h1, h2, h3⟩ => ⟨v, r, h1, m P List.mem_cons_self _ _ _ e h2, Par.mono e (fun Q hq => m Q (List.mem_cons_of_mem _ hq)) h3⟩
theorem Par.len {G : Hp} : ∀ {Ps : List (Hp → V → Prop)} {vs : List V}, Par G Ps vs → vs.length = Ps.length
  | [], _, h => by cases h; rfl
  | _ :: _, _, ⟨_, _, h1, _, h3⟩ => by subst h1; simp [Par.len h3]
theorem Par.snoc {G : Hp} {P : Hp → V → Prop} {v : V} (k : P G v) : ∀ {Ps : List (Hp → V → Prop)} {vs : List V}, Par G Ps vs → Par G (Ps ++ [P]) (vs ++ [v])
  | [], _, h => by cases h; exact ⟨v, [], rfl, k, rfl⟩
  | _ :: _, _, ⟨u, r, h1, h2, h3⟩ => by subst h1; exact ⟨u, _, rfl, h2, Par.snoc k h3⟩
theorem par_fr {E : Ent} {G : Hp} : ∀ {ds : List D} {vs : List V}, Par G (ds.map (fr E)) vs → RpA (out E.H G) ds vs
  | [], _, h => h
  | d :: ds, _, ⟨v, r, h1, h2, h3⟩ => ⟨v, r, h1, h2, par_fr h3⟩
theorem fr_par {E : Ent} {G : Hp} : ∀ {ds : List D} {vs : List V}, RpA (out E.H G) ds vs → Par G (ds.map (fr E)) vs
  | [], _, h => h
  | d :: ds, _, ⟨v, r, h1, h2, h3⟩ => ⟨v, r, h1, h2, fr_par h3⟩
/-- a new list of values that P holds of -/
def EvL (E : Ent) (te : TE) (δ : List Sl) (Ps : List (Hp → V → Prop)) : Prop := ∀ σ G H (Q : VK), St E δ σ G H → (∀ p vs G2 H2, Gr G H G2 H2 → H p = none → G2 p = none → H2 p = some (.lst vs) → Par G2 Ps vs → Q (.ref p) H2) → te σ H Q
/-- a tree that nothing else knows -/
def own (d : D) : Sl := .ob (fun _ F v => Rp F d v)
/-- a datum made anew in this call, shared -/
def nd (E : Ent) (d : D) : Sl := .ob (fun G _ v => fr E d G v)
/-- a call that hands back a tree of its own -/
def EvN (E : Ent) (te : TE) (δ : List Sl) (d : D) : Prop := ∀ σ G H (Q : VK), St E δ σ G H → (∀ v F G2 H2, Gr G H G2 H2 → Same F H2 → (∀ a, F a ≠ none → H a = none ∧ G2 a = none) → Rp F d v → Q v H2) → te σ H Q
def spN (K : PySem.W.Frag) (R : List Sl → D → Prop) : Sp := fun vs H Q _ => ∃ G as d, Same G H ∧ ArgsR K G H as vs ∧ R as d ∧ ∀ v F H2, Same H H2 → Same F H2 → (∀ a, F a ≠ none → H a = none) → Rp F d v → Q v H2
section
variable {E : Ent} {δ δ' : List Sl} {ta tb te tc : TE} {tt tu : TT} {d d1 d2 : D} {Φ : Out → Prop} {u : TS} {t : TA}
theorem EvP.ev (h : EvP E te δ (fun G v => Rp G d v)) : Ev E te δ d := h
theorem EvP.imp {P P' : Hp → V → Prop} (h : EvP E te δ P) (k : ∀ G v, P G v → P' G v) : EvP E te δ P' := fun σ G H Q s c => h σ G H Q s fun v G2 H2 g r => c v G2 H2 g (k _ _ r)
theorem EvF.fr {ds : List D} (h : EvF E te δ ds) (hs : ds.all scalD = true) : EvP E te δ (PL.fr E (.list ds)) := fun σ G H Q s k => h σ G H Q s fun p vs G2 H2 g hp gp h2 r => by
  have sg : Same G2 (upd G2 p (.lst vs)) := same_new gp
  refine k (.ref p) (upd G2 p (.lst vs)) H2 ⟨g.g.trans sg, g.h, fun a ha ga => ?_, fun a u e => ?_⟩ ⟨p, vs, rfl, ?_, scalA_rp hs r⟩
  · have ne : a ≠ p := fun z => ha (by rw [z]; exact hp)
    rw [upd_ne ne]; exact g.n a ha ga
  · by_cases ne : a = p
    · subst ne; rw [upd_same] at e; cases e; exact h2
    · rw [upd_ne ne] at e; exact g.i a u e
  · rw [out_none (s.h.free hp)]; exact upd_same
theorem EvL.evF {ds : List D} (h : EvL E te δ (ds.map fun d G v => Rp G d v)) : EvF E te δ ds := fun σ G H Q s k => h σ G H Q s fun p vs G2 H2 g hp gp h2 r => k p vs G2 H2 g hp gp h2 (by
  have : ∀ {ds : List D} {vs : List V}, Par G2 (ds.map fun d G v => Rp G d v) vs → RpA G2 ds vs := by
    intro ds
    induction ds with
    | nil => exact fun h => h
    | cons d ds ih => exact fun ⟨v, r, h1, h2, h3⟩ => ⟨v, r, h1, h2, ih h3⟩
  exact this r)
theorem xs_retL {ds : List D} (h : EvL E te δ (ds.map (fr E))) (k : Φ (.rf (.list ds))) : Xs E (tRet te) δ Φ := fun σ G H X s p => h σ G H _ s fun q vs G1 H1 g hp gp h2 r => by
  have z := par_fr r
  have i1 : Same (out E.H G1) H1 := out_in.trans g.i
  refine p _ k (.ref q) (upd (out E.H G1) q (.lst vs)) H1 (s.h.trans g.h) (fun a o e => ?_) (fun a e => ?_) ⟨q, vs, rfl, upd_same, RpA.mono (same_new ?_) _ _ z⟩
  · by_cases ne : a = q
    · subst ne; rw [upd_same] at e; cases e; exact h2
    · rw [upd_ne ne] at e; exact i1 a o e
  · by_cases ne : a = q
    · subst ne; exact s.h.free hp
    · rw [upd_ne ne] at e; exact out_ne e
  · cases e : out E.H G1 q with
    | none => rfl
    | some o => rw [(out_some e).2] at gp; cases gp
/-- what a call hands back -/
theorem evN_call {R : List Sl → D → Prop} {as : List Sl} {XE : XK} (h : Ea E t δ as) (hR : R as d) : EvN E (tCall (spN E.K R) [] XE t) δ d := fun σ G H Q s k =>
  h σ G H _ s fun us G1 H1 g1 r1 => by
    rw [List.append_nil]
    exact ⟨G1, as, d, g1.i, r1, hR, fun v F H2 e1 e2 e3 r2 => k v F G1 H2 (g1.trans (Gr.side g1.i e1)) e2 (fun a ha => ⟨g1.h.free (e3 a ha), g1.i.free (e3 a ha)⟩) r2⟩
theorem EvN.grow {σ : L2.St} {G H G2 H2 F : Hp} (g : Gr G H G2 H2) (i : Same F H2) (n : ∀ a, F a ≠ none → H a = none ∧ G2 a = none) : Gr G H (jn G2 F) H2 :=
  ⟨g.g.trans jn_l, g.h, fun a ha ga => jn_none (g.n a ha ga) (by
    cases e : F a with
    | none => rfl
    | some o => exact absurd (n a (by rw [e]; simp)).1 ha), jn_in g.i i⟩
theorem EvN.ev (h : EvN E te δ d) : Ev E te δ d := fun σ G H Q s k => h σ G H Q s fun v F G2 H2 g i n r => k v (jn G2 F) H2 (EvN.grow (σ := σ) g i n) (Rp.mono (jn_r fun a ha => (n a ha).2) _ _ r)
theorem EvN.fr (h : EvN E te δ d) : EvP E te δ (PL.fr E d) := fun σ G H Q s k => h σ G H Q s fun v F G2 H2 g i n r => k v (jn G2 F) H2 (EvN.grow (σ := σ) g i n) (by
  refine Rp.mono (fun a o e => ?_) _ _ r
  have z := n a (by rw [e]; simp)
  rw [out_none (s.h.free z.1)]
  exact jn_r (fun a ha => (n a ha).2) a o e)
theorem xs_asgN {i : Nat} (h : EvN E te δ d) (k : Φ (.nx (δ.set i (own d)))) : Xs E (tAsg te (gName i)) δ Φ := fun σ G H X s p => h σ G H _ s fun v F G1 H1 g i1 n r => p _ k _ G1 H1 g.g (s.put g i (own d) (some v) F i1 n ⟨v, rfl, fun _ _ => r⟩)
theorem q_asgN {i : Nat} (h : EvN E te δ d) (k : Xs E u (δ.set i (own d)) Φ) : Xs E (tSeq (tAsg te (gName i)) u) δ Φ := xs_seq (xs_asgN h k)
theorem spN_run {K : PySem.W.Frag} {R : List Sl → D → Prop} {t : TS} {N : List Str} {vs : List V} {H : Hp} {Q : VK} {XE : XK} (hsp : spN K R vs H Q XE) (hn : vs.length ≤ N.length)
    (h : ∀ as d, R as d → ∀ E : Ent, E.K = K → Xs E t (argSl as (N.length - as.length)) fun o => o = .rf d) : t { nx := fun _ H' => Q .non H', rt := Q } (start N vs) H := by
  obtain ⟨G, as, d, i, r, hR, k⟩ := hsp
  refine h as d hR ⟨K, G, H⟩ rfl (start N vs) G H _ (st_start i r hn) fun o e => ?_
  subst e
  exact fun v F H' e1 e2 e3 r => k v F H' e1 e2 e3 r
theorem spN_len {K : PySem.W.Frag} {R : List Sl → D → Prop} {n : Nat} {vs : List V} {H : Hp} {Q : VK} {XE : XK} (hsp : spN K R vs H Q XE) (h : ∀ as d, R as d → as.length = n) : vs.length = n := by
  obtain ⟨G, as, d, i, r, hR, k⟩ := hsp
  rw [r.len, h as d hR]
/-- an own tree lent -/
theorem St.shareN {σ : L2.St} {G H : Hp} {i : Nat} (s : St E δ σ G H) (h : δ[i]? = some (own d)) :
    ∃ F, Same F H ∧ (∀ a, F a ≠ none → G a = none ∧ E.H a = none) ∧ St E (δ.set i (.d d)) σ (jn G F) H := by
  obtain ⟨o, ho⟩ := s.here h
  obtain ⟨F, q⟩ := s.rg
  obtain ⟨v, e, r⟩ := q.sl i _ o h ho
  have r := r G (Same.refl G)
  subst e
  have sg : Same G (jn G (F i)) := jn_l
  refine ⟨F i, q.in_ i, q.out i, s.g.trans sg, s.h, fun a ha ga => jn_none (s.n a ha ga) ?_, jn_in s.i (q.in_ i), by simp [s.len], fun j => if j = i then none0 else F j, ?_⟩
  · cases e : F i a with
    | none => rfl
    | some o => exact absurd (q.out i a (by rw [e]; simp)).2 ha
  · refine ⟨fun j => ?_, fun j a hf => ?_, fun j k a ne hf => ?_, fun j t o q1 q2 => ?_⟩
    · by_cases e : j = i
      · simp only [e, if_true]; exact fun _ _ y => nomatch y
      · simp only [e, if_false]; exact q.in_ j
    · by_cases e : j = i
      · simp only [e, if_true] at hf; exact absurd rfl hf
      · simp only [e, if_false] at hf
        have y := q.out j a hf
        exact ⟨jn_none y.1 (q.ap j i a e hf), y.2⟩
    · by_cases e : j = i
      · simp only [e, if_true] at hf; exact absurd rfl hf
      · simp only [e, if_false] at hf
        by_cases e2 : k = i
        · simp only [e2, if_true]; rfl
        · simp only [e2, if_false]; exact q.ap j k a ne hf
    · by_cases e : j = i
      · subst e
        simp only [if_true]
        rw [List.getElem?_set] at q1
        simp only [if_true] at q1
        split at q1
        · cases q1
          rw [ho] at q2; cases q2
          exact ⟨v, rfl, Rp.mono (jn_r fun a ha => (q.out j a ha).1) _ _ r⟩
        · cases q1
      · simp only [e, if_false]
        rw [List.getElem?_set_ne (Ne.symm e)] at q1
        exact (q.sl j t o q1 q2).mono sg
theorem Et.lendN {b : Bool} {i : Nat} (o : δ[i]? = some (own d)) (h : Et E tt (δ.set i (.d d)) b) : Et E tt δ b := fun σ G H Q s k => by
  obtain ⟨F, _, _, s'⟩ := s.shareN o
  exact h σ _ H Q s' fun G2 H2 g => k G H2 (Gr.side s.i g.h)
theorem Ev.lendN {i : Nat} {x : D} (o : δ[i]? = some (own x)) (h : Ev E te (δ.set i (.d x)) d) (hs : scalD d = true) : Ev E te δ d := fun σ G H Q s k => by
  obtain ⟨F, _, _, s'⟩ := s.shareN o
  exact h σ _ H Q s' fun v G2 H2 g r => k v G H2 (Gr.side s.i g.h) (scal_rp hs r)
theorem xs_shareN {i : Nat} (o : δ[i]? = some (own d)) (h : Xs E u (δ.set i (.d d)) Φ) : Xs E u δ Φ := fun σ G H X s p => by
  obtain ⟨F, _, _, s'⟩ := s.shareN o
  exact h σ _ H X s' fun o q => (p o q).mono jn_l
/-- what is known of a slot, less -/
theorem xs_weak {i : Nat} {P P' : Hp → Hp → V → Prop} (o : δ[i]? = some (.ob P)) (w : ∀ G F v, (∀ G', Same G G' → P G' F v) → ∀ G', Same G G' → P' G' F v) (h : Xs E u (δ.set i (.ob P')) Φ) : Xs E u δ Φ := fun σ G H X s p => by
  refine h σ G H X ⟨s.g, s.h, s.n, s.i, by simp [s.len], ?_⟩ p
  obtain ⟨F, q⟩ := s.rg
  refine ⟨F, q.in_, q.out, q.ap, fun j t o' q1 q2 => ?_⟩
  by_cases e : j = i
  · subst e
    rw [List.getElem?_set] at q1
    simp only [if_true] at q1
    split at q1
    · cases q1
      obtain ⟨v, e, r⟩ := q.sl j _ o' o q2
      exact ⟨v, e, w G _ v r⟩
    · cases q1
  · rw [List.getElem?_set_ne (Ne.symm e)] at q1
    exact q.sl j t o' q1 q2
/-- what is there of a slot is named -/
theorem xs_open {α : Type} {i : Nat} {P : Hp → V → Prop} {P' : α → Hp → V → Prop} (o : δ[i]? = some (.ob fun _ F v => P F v)) (w : ∀ F v, P F v → ∃ x, P' x F v) (h : ∀ x, Xs E u (δ.set i (.ob fun _ F v => P' x F v)) Φ) : Xs E u δ Φ := fun σ G H X s p => by
  obtain ⟨o', ho⟩ := s.here o
  obtain ⟨F, q⟩ := s.rg
  obtain ⟨v, e, r⟩ := q.sl i _ o' o ho
  obtain ⟨x, r2⟩ := w _ v (r G (Same.refl G))
  refine h x σ G H X ⟨s.g, s.h, s.n, s.i, by simp [s.len], F, q.in_, q.out, q.ap, fun j t o2 q1 q2 => ?_⟩ p
  by_cases e2 : j = i
  · subst e2
    rw [List.getElem?_set] at q1
    simp only [if_true] at q1
    split at q1
    · cases q1
      rw [ho] at q2; cases q2
      exact ⟨v, e, fun _ _ => r2⟩
    · cases q1
  · rw [List.getElem?_set_ne (Ne.symm e2)] at q1
    exact q.sl j t o2 q1 q2
/-- an own object somewhere in a slot's region is changed -/
theorem St.changeIn {σ : L2.St} {G H : Hp} {i : Nat} {P P' : Hp → V → Prop} {a : Addr} {u' : HO} (s : St E δ σ G H) (hw : δ[i]? = some (.ob fun _ F v => P F v))
    (inn : ∀ F v, P F v → F a ≠ none) (r : ∀ F v, P F v → P' (upd F a u') v) : St E (δ.set i (.ob fun _ F v => P' F v)) σ G (upd H a u') := by
  obtain ⟨o, ho⟩ := s.here hw
  obtain ⟨F, q⟩ := s.rg
  obtain ⟨v, e, hs⟩ := q.sl i _ o hw ho
  subst e
  have hs := hs G (Same.refl G)
  have fp := inn _ _ hs
  have z := q.out i a fp
  have i2 : Same G (upd H a u') := same_mut s.i z.1
  have := q.step s.i i (.ob fun _ F v => P' F v) (some v) (upd (F i) a u') (Same.refl G) i2 (fun _ _ h => h) (fun b o h hf => by
    have ne : b ≠ a := fun e => by subst e; exact fp hf
    rw [upd_ne ne]; exact h) (fun b o h => by
    by_cases e : b = a
    · subst e; rw [upd_same] at h ⊢; exact h
    · rw [upd_ne e] at h ⊢; exact q.in_ i b o h) (fun b h => by
    by_cases e : b = a
    · subst e; exact z
    · rw [upd_ne e] at h; exact q.out i b h) (fun b h => by
    by_cases e : b = a
    · subst e; exact .inl fp
    · rw [upd_ne e] at h; exact .inl h) ⟨v, rfl, fun _ _ => r _ _ hs⟩
  rw [set_get ho] at this
  exact ⟨s.g, same_mut s.h z.2, s.n, i2, by simp [s.len], _, this⟩
/-- an append to a list somewhere in a slot's region, the list known by its name j -/
theorem evM_appendIn {i j : Nat} {a : Addr} {P P' : Hp → V → Prop} (hj : δ[j]? = some (.v (.ref a))) (hi : δ[i]? = some (.ob fun _ F v => P F v)) (ha : Ev E ta δ d)
    (at_ : ∀ F v, P F v → ∃ us, F a = some (.lst us) ∧ us.length < 100000) (r : ∀ F v us z, P F v → F a = some (.lst us) → P' (upd F a (.lst (us ++ [z]))) v) :
    EvM E (tBM E.K "list" rAppend (tVar j) (tCons ta tNil)) δ (δ.set i (.ob fun _ F v => P' F v)) .none := fun σ G H Q s k => by
  have hv := s.atV hj
  have hh : ∀ {G H : Hp}, St E δ σ G H → ∃ us, H a = some (.lst us) ∧ us.length < 100000 ∧ ∀ F v, P F v → Same F H → F a = some (.lst us) := by
    intro G H s
    obtain ⟨o, ho⟩ := s.here hi
    obtain ⟨F, q⟩ := s.rg
    obtain ⟨v, e, hs⟩ := q.sl i _ o hi ho
    obtain ⟨us, h1, h2⟩ := at_ _ _ (hs G (Same.refl G))
    refine ⟨us, q.in_ i a _ h1, h2, fun F' v' p e => ?_⟩
    obtain ⟨us', h3, _⟩ := at_ _ _ p
    have := e a _ h3
    rw [q.in_ i a _ h1] at this
    cases this
    exact h3
  obtain ⟨us, h1, _⟩ := hh s
  refine ⟨.ref a, hv, .inl ⟨rfl, _, SqL.of h1⟩, ha σ G H _ s fun v G2 H2 g rv => ?_⟩
  have s2 := s.grow g
  obtain ⟨us2, h3, h4, h5⟩ := hh s2
  have st : St E (δ.set i (.ob fun _ F v => P' F v)) σ G2 (upd H2 a (.lst (us2 ++ [v]))) := by
    obtain ⟨o, ho⟩ := s2.here hi
    obtain ⟨F, q⟩ := s2.rg
    obtain ⟨w, e, hs⟩ := q.sl i _ o hi ho
    subst e
    have hs := hs G2 (Same.refl G2)
    have fa := h5 _ _ hs (q.in_ i)
    -- P at this region alone
    have := St.changeIn (P := fun F v' => P F v' ∧ F a = some (.lst us2)) (P' := P') (a := a) (u' := .lst (us2 ++ [v])) (i := i) (δ := δ.set i (.ob fun _ F v' => P F v' ∧ F a = some (.lst us2))) (σ := σ) (G := G2) (H := H2) ⟨s2.g, s2.h, s2.n, s2.i, by simp [s2.len], F, q.in_, q.out, q.ap, fun j t o2 q1 q2 => by
      by_cases e2 : j = i
      · subst e2
        rw [List.getElem?_set] at q1
        simp only [if_true] at q1
        split at q1
        · cases q1
          rw [ho] at q2; cases q2
          exact ⟨w, rfl, fun _ _ => ⟨hs, fa⟩⟩
        · cases q1
      · rw [List.getElem?_set_ne (Ne.symm e2)] at q1
        exact q.sl j t o2 q1 q2⟩ (by
      have lt := (List.getElem?_eq_some_iff.mp hi).1
      simp [lt]) (fun F v' p => by rw [p.2]; simp) (fun F v' p => r F v' us2 v p.1 p.2)
    rw [List.set_set] at this
    exact this
  exact ⟨a, us2, v, rfl, rfl, h3, Nat.lt_of_lt_of_le h4 (by decide), k _ G2 _ g.g st rfl⟩
end
end PL

/-! PLoop: walks and comprehensions over things made anew, loops over own trees, update, remove, sorted lists. -/
namespace PL
open PySem L2

/-! ### comprehensions whose items are known by what holds of them -/
def WalkP (J : It) (Gs Hs : Hp) (Ps : List (Hp → V → Prop)) : Prop := Walk J Ps.length (fun H => Same Hs H) fun i H v H' => ∀ G, Same Gs G → Same G H → ∃ G' P, Ps[i]? = some P ∧ Gr G H G' H' ∧ P G' v
def EvIp (E : Ent) (wi : TI) (δ : List Sl) (Ps : List (Hp → V → Prop)) : Prop := ∀ σ G H (R : It → Hp → Prop), St E δ σ G H → (∀ J G2 H2, Gr G H G2 H2 → WalkP J G2 H2 Ps → R J H2) → wi σ H R
def rp (d : D) : Hp → V → Prop := fun G v => Rp G d v
theorem mon_rp (d : D) : Mon (rp d) := fun _ _ _ e h => Rp.mono e _ _ h
theorem mon_fr (E : Ent) (d : D) : Mon (fr E d) := fun _ _ _ e h => fr_mono e h
def TgP (E : Ent) (js : List Nat) (g : TG) (P : Hp → V → Prop) (δ δ' : List Sl) : Prop := ∀ σ G H (Q : L2.St → Hp → Prop) v, St E δ σ G H → P G v → (∀ σ', St E δ' σ' G H → (∀ vs : List Nat, (∀ j ∈ js, j ∈ vs) → wipe σ' vs = wipe σ vs) → Q σ' H) → g v σ H Q
section
variable {E : Ent} {δ δ' δ2 : List Sl} {ta tb te tc : TE} {tt tu : TT} {d d1 d2 : D} {Φ : Out → Prop} {u : TS} {t : TA} {K : PySem.W.Frag} {wi : TI} {g : TG}
theorem EvIc.p {xs : List D} (h : EvIc E wi δ xs) : EvIp E wi δ (xs.map rp) := fun σ G H R s k => h σ G H R s fun J G2 H2 g w => k J G2 H2 g (by
  unfold WalkP
  rw [List.length_map]
  exact Walk.mono w (fun _ h => h) fun i H v H' _ _ y G' e1 e2 => by
    obtain ⟨G3, x, h1, h2, h3⟩ := y G' e1 e2
    exact ⟨G3, rp x, by rw [List.getElem?_map, h1]; rfl, h2, h3⟩)
theorem walkP_list {A G : Hp} {a : Addr} {vs : List V} {xs : List D} (h : G a = some (.lst vs)) (r : RpA (out A G) xs vs) (Hs : Hp) (i : Same G Hs) : WalkP (Itl K a) G Hs (xs.map fun x G v => Rp (out A G) x v) := by
  have w := (walk_list (K := K) (a := a) (xs := vs)).mono (G' := fun H => Same Hs H) (Y' := fun i H v H' => ∀ G', Same G G' → Same G' H → ∃ G2 P, (xs.map fun x G v => Rp (out A G) x v)[i]? = some P ∧ Gr G' H G2 H' ∧ P G2 v) (fun H s => SqL.of (s _ _ (i _ _ h))) fun i H v H' hi s y G' e1 e2 => by
    obtain ⟨e, hv⟩ := y
    subst e
    rw [r.len] at hi
    obtain ⟨v', h1, h2⟩ := r.get (List.getElem?_eq_getElem hi)
    rw [hv] at h1; cases h1
    exact ⟨G', _, by rw [List.getElem?_map, List.getElem?_eq_getElem hi]; rfl, Gr.refl e2, Rp.mono (out_mono e1) _ _ h2⟩
  rw [r.len] at w
  unfold WalkP
  rw [List.length_map]
  exact w
/-- walking a tree that a call hands back -/
theorem ei_listN {xs : List D} (h : EvN E te δ (.list xs)) : EvIp E (iList K te) δ (xs.map (fr E)) := fun σ G H R s k => h.fr σ G H _ s fun v G1 H1 g r => by
  obtain ⟨a, vs, e, h1, h2⟩ := r
  obtain ⟨_, h1⟩ := out_some h1
  exact ⟨a, e, ⟨vs, sqL_of g.i h1⟩, k _ G1 H1 g (walkP_list (A := E.H) h1 h2 H1 g.i)⟩
theorem tgP_name {j : Nat} {x : D} : TgP E [j] (gName j) (fr E x) δ (δ.set j (nd E x)) := fun σ G H Q v s r k => k _ (s.putB j _ _ ⟨v, rfl, fun G' e => fr_mono e r⟩) fun vs h => wipe_set (h j (by simp))
theorem Tg.p {js : List Nat} {x : D} (h : Tg E js g x δ δ') : TgP E js g (rp x) δ δ' := fun σ G H Q v s r k => h σ G H Q v s r k
theorem evP_nd {i : Nat} {x : D} (h : δ[i]? = some (nd E x)) : EvP E (tVar i) δ (fr E x) := fun σ G H Q s k => by
  obtain ⟨o, ho⟩ := s.here h
  obtain ⟨F, q⟩ := s.rg
  obtain ⟨v, e, r⟩ := q.sl i _ o h ho
  subst e
  exact ⟨v, ho, k v G H (Gr.refl s.i) (r G (Same.refl G))⟩
theorem fr_rp {G : Hp} {v : V} {x : D} (h : fr E x G v) : Rp G x v := Rp.mono out_in _ _ h
theorem ev_nd {i : Nat} {x : D} (h : δ[i]? = some (nd E x)) : Ev E (tVar i) δ x := fun σ G H Q s k => evP_nd h σ G H Q s fun v G2 H2 g r => k v G2 H2 g (fr_rp r)
theorem evP_tup2 {x y : D} (ha : EvP E ta δ (fr E x)) (hb : EvP E tb δ (fr E y)) : EvP E (tTup (tCons ta (tCons tb tNil))) δ (fr E (.tuple [x, y])) := fun σ G H Q s k => by
  refine ha σ G H _ s fun v G1 H1 g1 r1 => hb σ G1 H1 _ (s.grow g1) fun w G2 H2 g2 r2 => ?_
  refine ⟨by show 2 ≤ sizeLine; decide, fun p hp => ?_⟩
  have g12 := g1.trans g2
  refine k _ (upd G2 p (.tup [v, w])) _ (g12.trans (Gr.new g2.i hp)) ?_
  have sg : Same G2 (upd G2 p (.tup [v, w])) := same_new (g2.i.free hp)
  have ep : E.H p = none := (s.h.trans g12.h).free hp
  exact ⟨p, [v, w], rfl, by rw [out_none ep]; exact upd_same, v, [w], rfl, Rp.mono (out_mono ((g2.g).trans sg)) _ _ r1, w, [], rfl, Rp.mono (out_mono sg) _ _ r2, rfl⟩
theorem evL_lc {α : Type} (ls : List α) (enc : α → Hp → V → Prop) (c : α → Bool) (val : α → Hp → V → Prop) (mon : ∀ a, Mon (val a)) {vs : List Nat} (hi : EvIp E wi δ (ls.map enc)) (hz : ls.length ≤ 100000)
    (turn : ∀ a, a ∈ ls → ∃ js δ2, (∀ j ∈ js, j ∈ vs) ∧ TgP E js g (enc a) (wipeS δ vs) δ2 ∧ Et E tt δ2 (c a) ∧ (c a = true → EvP E te δ2 (val a))) : EvL E (tLc wi g tt te vs) δ ((ls.filter c).map val) := fun σ G H Q s k => hi σ G H _ s fun J G1 H1 g1 w => by
  intro Dl hD
  have s1 := s.grow g1
  have lenw : (ls.map enc).length = ls.length := List.length_map _
  have gD : G1 Dl = none := g1.i.free hD
  have mm : ∀ l : List α, ∀ P ∈ l.map val, Mon P := fun l P hP => by
    obtain ⟨a, _, rfl⟩ := List.mem_map.mp hP
    exact mon a
  refine lc_it w (fun i H' => ∃ G' acc, Same G1 G' ∧ Same H1 H' ∧ Same G' H' ∧ (∀ a, H1 a ≠ none → G1 a = none → G' a = none) ∧ G' Dl = none ∧ H' Dl = some (.lst acc) ∧ Par G' (((ls.take i).filter c).map val) acc) ⟨G1, [], Same.refl _, same_new hD, same_mut g1.i gD, fun _ _ h => h, gD, upd_same, rfl⟩ (fun i H' _ ⟨G', acc, e, eh, i', _⟩ => eh) (fun i v H' H2 hi' ⟨G', acc, e, eh, i', n', gd, hd, r⟩ y => ?_) (fun H' ⟨G', acc, e, eh, i', n', gd, hd, r⟩ => ?_)
  · obtain ⟨G2, x, hx, g2, rx⟩ := y G' e i'
    rw [lenw] at hi'
    have hx2 : x = enc ls[i] := by
      rw [List.getElem?_map, List.getElem?_eq_getElem hi'] at hx
      exact (Option.some.inj hx).symm
    subst hx2
    obtain ⟨js, δ2, hj, tg, test, elt⟩ := turn ls[i] (List.getElem_mem hi')
    have gr2 : Gr G1 H1 G2 H2 := (⟨e, eh, n', i'⟩ : Gr G1 H1 G' H').trans g2
    have s2 := (s1.grow gr2).wiped vs
    have tk : ls.take (i + 1) = ls.take i ++ [ls[i]] := by rw [List.take_succ, List.getElem?_eq_getElem hi']; rfl
    have hd2 : H2 Dl = some (.lst acc) := g2.h _ _ hd
    have gd2 : G2 Dl = none := g2.n Dl (by rw [hd]; simp) gd
    refine tg _ G2 H2 _ v s2 rx fun σ3 s3 wp => ⟨by rw [wp vs hj, wipe_wipe], test σ3 G2 H2 _ s3 fun G3 H3 g3 => ?_⟩
    have gr3 := gr2.trans g3
    have hd3 : H3 Dl = some (.lst acc) := g3.h _ _ hd2
    have gd3 : G3 Dl = none := g3.n Dl (by rw [hd2]; simp) gd2
    cases hc : c ls[i] with
    | true =>
      rw [if_pos rfl]
      refine elt hc σ3 G3 H3 _ (s3.grow g3) fun z G4 H4 g4 rz => ?_
      have gr4 := gr3.trans g4
      have hd4 : H4 Dl = some (.lst acc) := g4.h _ _ hd3
      have gd4 : G4 Dl = none := g4.n Dl (by rw [hd3]; simp) gd3
      have racc : Par G4 (((ls.take i).filter c).map val) acc := Par.mono ((g2.g.trans g3.g).trans g4.g) (mm _) r
      refine ⟨acc, hd4, ?_, G4, acc ++ [z], gr4.g, same_mut gr4.h hD, same_mut gr4.i gd4, gr4.n, gd4, upd_same, ?_⟩
      · rw [racc.len, List.length_map]
        have h1 := List.length_filter_le c (ls.take i)
        have h2 := List.length_take_le i ls
        have h3 : (100000 : Nat) < sizeLine := by decide
        have h4 : (ls.take i).length ≤ ls.length := by rw [List.length_take]; omega
        omega
      · rw [tk, List.filter_append, List.map_append]
        have e1 : List.filter c [ls[i]] = [ls[i]] := by simp [hc]
        rw [e1]
        exact racc.snoc rz
    | false =>
      rw [if_neg Bool.false_ne_true]
      refine ⟨G3, acc, gr3.g, gr3.h, gr3.i, gr3.n, gd3, hd3, ?_⟩
      rw [tk, List.filter_append, List.map_append]
      have e1 : List.filter c [ls[i]] = [] := by simp [hc]
      rw [e1]
      simpa using Par.mono (g2.g.trans g3.g) (mm _) r
  · rw [lenw, List.take_length] at r
    exact k Dl acc G' H' ⟨g1.g.trans e, g1.h.trans eh, fun a ha ga => n' a (fun z => by
      cases q : H a with
      | none => exact ha q
      | some o => rw [g1.h a o q] at z; cases z) (g1.n a ha ga), i'⟩ (g1.h.free hD) gd hd r
theorem evL_map {α : Type} (ls : List α) (enc : α → Hp → V → Prop) (val : α → Hp → V → Prop) (mon : ∀ a, Mon (val a)) {vs : List Nat} (hi : EvIp E wi δ (ls.map enc)) (hz : ls.length ≤ 100000)
    (turn : ∀ a, a ∈ ls → ∃ js δ2, (∀ j ∈ js, j ∈ vs) ∧ TgP E js g (enc a) (wipeS δ vs) δ2 ∧ EvP E te δ2 (val a)) : EvL E (tLc wi g tYes te vs) δ (ls.map val) := by
  have h := evL_lc (tt := tYes) ls enc (fun _ => true) val mon hi hz fun a ha => by
    obtain ⟨js, δ2, h1, h2, h3⟩ := turn a ha
    exact ⟨js, δ2, h1, h2, et_yes, fun _ => h3⟩
  have e : ls.filter (fun _ => true) = ls := by simp
  rw [e] at h
  exact h

/-! ### sorted(lists of ints) -/
def intsOf : List V → List Int
  | [] => []
  | .int i :: vs => i :: intsOf vs
  | _ :: vs => intsOf vs
theorem intsOf_map : ∀ ns : List Int, intsOf (ns.map V.int) = ns
  | [] => rfl
  | n :: ns => by show n :: intsOf (ns.map V.int) = _; rw [intsOf_map ns]
def atK (G : Hp) (t : Addr) : List Int := match G t with
  | some (.lst vs) => intsOf vs
  | _ => []
theorem rp_ints {G : Hp} {ns : List Int} {v : V} (h : Rp G (intsL ns) v) : ∃ t, v = .ref t ∧ G t = some (.lst (ns.map V.int)) := by
  obtain ⟨a, vs, e, h1, h2⟩ := h
  have := RpA.of_ints h2
  subst this
  exact ⟨a, e, h1⟩
theorem par_ints {G : Hp} : ∀ {gss : List (List Int)} {vs : List V}, Par G (gss.map fun g => fr E (intsL g)) vs → ∃ ts : List Addr, vs = ts.map V.ref ∧ ts.map (atK G) = gss ∧ ∀ t ∈ ts, E.H t = none ∧ G t = some (.lst ((atK G t).map V.int))
  | [], _, h => ⟨[], h, rfl, fun _ z => absurd z (by simp)⟩
  | g :: gss, _, ⟨v, r, h1, h2, h3⟩ => by
    obtain ⟨t, e, h4⟩ := rp_ints h2
    obtain ⟨h5, h6⟩ := out_some h4
    obtain ⟨ts, e2, e3, h7⟩ := par_ints h3
    subst e e2
    have ek : atK G t = g := by unfold atK; rw [h6]; exact intsOf_map g
    refine ⟨t :: ts, h1, by rw [List.map_cons, ek, e3], fun t' ht => ?_⟩
    rcases List.mem_cons.mp ht with e | e
    · subst e; rw [ek]; exact ⟨h5, h6⟩
    · exact h7 t' e
theorem ints_par {G : Hp} : ∀ {ts : List Addr}, (∀ t ∈ ts, E.H t = none ∧ G t = some (.lst ((atK G t).map V.int))) → Par G ((ts.map (atK G)).map fun g => fr E (intsL g)) (ts.map V.ref)
  | [], _ => rfl
  | t :: ts, h => by
    have z := h t List.mem_cons_self
    refine ⟨.ref t, _, rfl, ⟨t, _, rfl, ?_, RpA.ints _⟩, ints_par fun t' ht => h t' (List.mem_cons_of_mem _ ht)⟩
    rw [out_none z.1]; exact z.2
theorem evL_sortedL {gss gss0 : List (List Int)} (ha : EvL E ta δ (gss.map fun g => fr E (intsL g))) (hu : ∀ l : List (List Int), l.Perm gss → l.Pairwise (fun p q => HT.lexLt q p = false) → l = gss0) :
    EvL E (tCB (rSortedL E.K) (tCons ta tNil)) δ (gss0.map fun g => fr E (intsL g)) := fun σ G H Q s k => by
  refine ha σ G H _ s fun p vs G1 H1 g hp gp h1 r => ?_
  obtain ⟨ts, e, e2, h2⟩ := par_ints r
  subst e
  refine ⟨p, ts, atK G1, rfl, SqL.of h1, fun t ht => g.i _ _ (h2 t ht).2, fun ts' q pm pw hq => ?_⟩
  have h3 : ∀ t ∈ ts', E.H t = none ∧ G1 t = some (.lst ((atK G1 t).map V.int)) := fun t ht => h2 t (pm.mem_iff.mp ht)
  have e3 : ts'.map (atK G1) = gss0 := hu _ (by rw [← e2]; exact pm.map _) (List.pairwise_map.mpr pw)
  refine k q _ G1 _ (g.trans (Gr.side g.i (same_new hq))) (g.h.free hq) (g.i.free hq) upd_same ?_
  rw [← e3]
  exact ints_par h3

/-! ### own dicts, own lists -/
def mrgD (kvs more : List (Key × D)) : List (Key × D) := more.foldl (fun acc kv => PL.putD acc kv.1 kv.2) kvs
theorem RpK.merge {G : Hp} : ∀ {more : List (Key × D)} {ms : List (Key × V)} {kvs : List (Key × D)} {ks : List (Key × V)}, RpK G more ms → RpK G kvs ks → RpK G (mrgD kvs more) (mergeK ks ms)
  | [], _, _, _, h, r => by cases h; exact r
  | (k, d) :: more, _, kvs, ks, ⟨v, t, h1, h2, h3⟩, r => by
    subst h1
    exact RpK.merge (kvs := PL.putD kvs k d) (ks := putK ks k v) h3 (r.put k h2)
theorem evM_dupd {n : Nat} {kvs more : List (Key × D)} (h0 : δ[n]? = some (.od kvs)) (ha : Ev E ta δ (dictD more)) (hz : kvs.length + more.length ≤ 100000) : EvM E (tDUpd E.K (tVar n) ta) δ (δ.set n (.od (mrgD kvs more))) .none := fun σ G H Q s k => by
  obtain ⟨p, ks, ho, h1, h2, h3, h4⟩ := s.atOd h0
  refine ⟨.ref p, ho, p, rfl, .inl ⟨ks, .inl h1⟩, ha σ G H _ s fun v G2 H2 g r => ?_⟩
  have s2 := s.grow g
  obtain ⟨b, ms, e, h5, h6⟩ := rp_dict r
  subst e
  have gp : G2 p = none := g.n p (by rw [h1]; simp) h3
  have h2' := h2.mono g.g
  exact ⟨b, ks, ms, rfl, (fun e => by rw [e, h5] at gp; cases gp), g.h _ _ h1, .inl (g.i _ _ h5), by rw [h2'.len, h6.len]; exact Nat.le_trans hz (by decide), k _ G2 _ g.g (s2.mutateD h0 ho (h6.merge h2')) rfl⟩
theorem first_ix (x : Int) : ∀ ns : List Int, x ∈ ns → ∃ j, ns[j]? = some x ∧ (∀ m, m < j → ns[m]? ≠ some x) ∧ ns.eraseIdx j = ns.erase x
  | [], h => absurd h (by simp)
  | n :: ns, h => by
    by_cases e : n = x
    · subst e
      exact ⟨0, rfl, fun m hm => absurd hm (Nat.not_lt_zero _), by simp⟩
    · rcases List.mem_cons.mp h with z | z
      · exact absurd z.symm e
      · obtain ⟨j, h1, h2, h3⟩ := first_ix x ns z
        refine ⟨j + 1, h1, fun m hm => ?_, ?_⟩
        · cases m with
          | zero => simpa using e
          | succ m => exact h2 m (by omega)
        · rw [List.eraseIdx_cons_succ, h3, List.erase_cons_tail (by simpa using e)]
theorem evM_remove {n : Nat} {ns : List Int} {x : Int} (h0 : δ[n]? = some (.ow (ns.map .int))) (ha : Ev E ta δ (.int x)) (hx : x ∈ ns) : EvM E (tBM E.K "list" rRemI (tVar n) (tCons ta tNil)) δ (δ.set n (.ow ((ns.erase x).map .int))) .none := fun σ G H Q s k => by
  obtain ⟨p, vs, ho, h1, h2, h3, h4⟩ := s.atOw h0
  have e := RpA.of_ints h2
  subst e
  refine ⟨.ref p, ho, .inl ⟨rfl, _, SqL.of h1⟩, ha σ G H _ s fun v G2 H2 g r => ?_⟩
  have s2 := s.grow g
  have r : v = .int x := r
  subst r
  obtain ⟨j, q1, q2, q3⟩ := first_ix x ns hx
  refine ⟨p, ns, x, j, rfl, rfl, g.h _ _ h1, q1, q2, ?_⟩
  rw [q3]
  exact k _ G2 _ g.g (s2.mutate h0 ho (RpA.ints _)) rfl
/-- [e], e changing own lists -/
theorem evM_lst1 (h : EvM E te δ δ' d) : EvM E (tLst (tCons te tNil)) δ δ' (.list [d]) := fun σ G H Q s k => h σ G H _ s fun v G1 H1 g s1 r => by
  refine ⟨by show 1 ≤ sizeLine; decide, fun p hp => ?_⟩
  have gr : Gr G1 H1 (upd G1 p (.lst [v])) (upd H1 p (.lst [v])) := Gr.new s1.i hp
  exact k _ _ _ (g.trans gr.g) (s1.grow gr) ⟨p, [v], rfl, upd_same, v, [], rfl, Rp.mono gr.g _ _ r, rfl⟩

/-! ### loops over own trees -/
def TgV (E : Ent) (g : TG) (x : V) (δ δ' : List Sl) : Prop := ∀ σ G H (Q : L2.St → Hp → Prop), St E δ σ G H → (∀ σ', St E δ' σ' G H → Q σ' H) → g x σ H Q
theorem tgV_name {j : Nat} {x : V} : TgV E (gName j) x δ (δ.set j (.v x)) := fun σ G H Q s k => k _ (s.putB j _ _ rfl)
/-- i, j = x, where x is a pair somewhere in slot n's region -/
theorem tgV_two {i j m n : Nat} {q : Addr} {x y : V} {P : Hp → V → Prop} (hn : δ[n]? = some (.ob fun _ F v => P F v)) (h : ∀ F v, P F v → F q = some (.tup [x, y])) (hm : 2 = m := by rfl) : TgV E (gTup K m (gCons (gName i) (gCons (gName j) gNil))) (.ref q) δ ((δ.set i (.v x)).set j (.v y)) := fun σ G H Q s k => by
  obtain ⟨o, ho⟩ := s.here hn
  obtain ⟨F, r⟩ := s.rg
  obtain ⟨v, e, p⟩ := r.sl n _ o hn ho
  have hq := r.in_ n q _ (h _ _ (p G (Same.refl G)))
  exact ⟨q, [x, y], rfl, SqT.of hq, hm, x, [y], rfl, y, [], rfl, rfl, k _ ((s.putB i (.v x) (some x) rfl).putB j (.v y) (some y) rfl)⟩
theorem xs_forIn {i : Nat} {p : Addr} {vs : List V} {tb : TS} (Inv : Nat → List Sl → Prop) (h0 : Inv 0 δ)
    (top : ∀ k δ', Inv k δ' → ∃ P : Hp → V → Prop, δ'[i]? = some (.ob fun _ F v => P F v) ∧ ∀ F v, P F v → v = .ref p ∧ F p = some (.lst vs))
    (turn : ∀ k x δ', vs[k]? = some x → Inv k δ' → ∃ δ2, TgV E g x δ' δ2 ∧ Xs E tb δ2 (TurnO (Inv (k + 1)) Φ)) (done : ∀ δ', Inv vs.length δ' → Φ (.nx δ')) : Xs E (tFor (iList K (tVar i)) g tb) δ Φ := fun σ G H X s P => by
  have top2 : ∀ {k δ' σ' G' H'}, Inv k δ' → St E δ' σ' G' H' → σ'[i]? = some (some (.ref p)) ∧ H' p = some (.lst vs) := by
    intro k δ' σ' G' H' inv s'
    obtain ⟨Q, h1, h2⟩ := top k δ' inv
    obtain ⟨o, ho⟩ := s'.here h1
    obtain ⟨F, q⟩ := s'.rg
    obtain ⟨v, e, hs⟩ := q.sl i _ o h1 ho
    subst e
    obtain ⟨e1, e2⟩ := h2 _ _ (hs G' (Same.refl G'))
    subst e1
    exact ⟨ho, q.in_ i _ _ e2⟩
  obtain ⟨t1, t2⟩ := top2 h0 s
  refine ⟨.ref p, t1, p, rfl, ⟨vs, SqL.of t2⟩, ?_⟩
  refine for_it (walk_list (K := K) (a := p) (xs := vs)) (fun k σ' H' => ∃ δ' G', Same G G' ∧ Inv k δ' ∧ St E δ' σ' G' H') ⟨δ, G, Same.refl _, h0, s⟩ (fun k σ' H' _ ⟨δ', G', e, inv, s'⟩ => SqL.of (top2 inv s').2) (fun k v σ' H' H2 hi' ⟨δ', G', e, inv, s'⟩ y => ?_) (fun σ' H' ⟨δ', G', e, inv, s'⟩ => P _ (done δ' inv) σ' G' H' e s')
  obtain ⟨e2, hv⟩ := y
  subst e2
  obtain ⟨δ2, tg, body⟩ := turn k v δ' hv inv
  refine tg σ' G' _ _ s' fun σ3 s3 => body σ3 G' _ _ s3 fun o q => ?_
  cases o with
  | nx δ3 => exact fun σ4 G4 H4 e4 s4 => ⟨δ3, G4, e.trans e4, q, s4⟩
  | ct δ3 => exact fun σ4 G4 H4 e4 s4 => ⟨δ3, G4, e.trans e4, q, s4⟩
  | bk δ3 => exact (P _ q).mono (G := G) e
  | rt d => exact P _ q
  | rl d => exact P _ q
  | rk d => exact P _ q
  | rf d => exact P _ q
/-- an append to the very list of slot i -/
theorem evM_appendTop {i : Nat} {a : Addr} {P P' : Hp → V → Prop} (hi : δ[i]? = some (.ob fun _ F v => P F v)) (ha : Ev E ta δ d)
    (at_ : ∀ F v, P F v → v = .ref a ∧ ∃ us, F a = some (.lst us) ∧ us.length < 100000) :
    EvM E (tBM E.K "list" rAppend (tVar i) (tCons ta tNil)) δ (δ.set i .no) .none := fun σ G H Q s k => by
  have hh : ∀ {G H : Hp}, St E δ σ G H → σ[i]? = some (some (.ref a)) ∧ ∃ us, H a = some (.lst us) ∧ us.length < 100000 := by
    intro G H s
    obtain ⟨o, ho⟩ := s.here hi
    obtain ⟨F, q⟩ := s.rg
    obtain ⟨v, e, hs⟩ := q.sl i _ o hi ho
    subst e
    obtain ⟨e, us, h1, h2⟩ := at_ _ _ (hs G (Same.refl G))
    subst e
    exact ⟨ho, us, q.in_ i a _ h1, h2⟩
  obtain ⟨h0, us, h1, _⟩ := hh s
  refine ⟨.ref a, h0, .inl ⟨rfl, _, SqL.of h1⟩, ha σ G H _ s fun v G2 H2 g rv => ?_⟩
  have s2 := s.grow g
  obtain ⟨h0', us2, h3, h4⟩ := hh s2
  have st : St E (δ.set i .no) σ G2 (upd H2 a (.lst (us2 ++ [v]))) := St.change (p := a) s2 _ hi h0' (fun F q => by
    obtain ⟨v, e, hs⟩ := q
    obtain ⟨e2, us, h1, h2⟩ := at_ _ _ (hs G2 (Same.refl G2))
    rw [h1]; simp) fun _ _ => trivial
  exact ⟨a, us2, v, rfl, rfl, h3, Nat.lt_of_lt_of_le h4 (by decide), k _ G2 _ g.g st rfl⟩
end
end PL

/-! PNest: own lists of own lists; extend; a call that is known by a property only. -/
namespace PL
open PySem L2
def NestR (G F : Hp) : List Addr → List (List D) → Prop
  | [], [] => True
  | t :: ts, xs :: xss => (∃ vs, F t = some (.lst vs) ∧ RpA G xs vs) ∧ NestR G F ts xss
  | _, _ => False
theorem NestR.len {G F : Hp} : ∀ {ts : List Addr} {xss : List (List D)}, NestR G F ts xss → ts.length = xss.length
  | [], [], _ => rfl
  | _ :: _, _ :: _, ⟨_, h⟩ => by simp [NestR.len h]
  | [], _ :: _, h => nomatch h
  | _ :: _, [], h => nomatch h
theorem NestR.mono {G G2 F F2 : Hp} (e : Same G G2) : ∀ {ts : List Addr} {xss : List (List D)}, (∀ t ∈ ts, F2 t = F t) → NestR G F ts xss → NestR G2 F2 ts xss
  | [], [], _, _ => trivial
  | t :: ts, xs :: xss, k, ⟨⟨vs, h1, h2⟩, h⟩ => ⟨⟨vs, by rw [k t List.mem_cons_self]; exact h1, RpA.mono e _ _ h2⟩, NestR.mono e (fun u hu => k u (List.mem_cons_of_mem _ hu)) h⟩
  | [], _ :: _, _, h => nomatch h
  | _ :: _, [], _, h => nomatch h
theorem NestR.snoc {G F : Hp} {t : Addr} {xs : List D} (k : ∃ vs, F t = some (.lst vs) ∧ RpA G xs vs) : ∀ {ts : List Addr} {xss : List (List D)}, NestR G F ts xss → NestR G F (ts ++ [t]) (xss ++ [xs])
  | [], [], _ => ⟨k, trivial⟩
  | _ :: _, _ :: _, ⟨h1, h⟩ => ⟨h1, NestR.snoc k h⟩
  | [], _ :: _, h => nomatch h
  | _ :: _, [], h => nomatch h
theorem NestR.get {G F : Hp} : ∀ {ts : List Addr} {xss : List (List D)} {j : Nat} {xs : List D}, NestR G F ts xss → xss[j]? = some xs → ∃ t vs, ts[j]? = some t ∧ F t = some (.lst vs) ∧ RpA G xs vs
  | [], [], _, _, _, e => by simp at e
  | t :: ts, ys :: xss, 0, xs, ⟨⟨vs, h1, h2⟩, h⟩, e => by
    have e : ys = xs := by simpa using e
    subst e
    exact ⟨t, vs, rfl, h1, h2⟩
  | t :: ts, ys :: xss, j + 1, xs, ⟨_, h⟩, e => by
    obtain ⟨u, vs, a, b, c⟩ := NestR.get (j := j) h (by simpa using e)
    exact ⟨u, vs, by simpa using a, b, c⟩
  | [], _ :: _, _, _, h, _ => nomatch h
  | _ :: _, [], _, _, h, _ => nomatch h
theorem NestR.set {G F : Hp} {t : Addr} {ws : List V} {ys : List D} (rw_ : RpA G ys ws) : ∀ {ts : List Addr} {xss : List (List D)} {j : Nat}, ts.Nodup → NestR G F ts xss → ts[j]? = some t → NestR G (upd F t (.lst ws)) ts (xss.set j ys)
  | [], [], _, _, _, e => by simp at e
  | u :: ts, xs :: xss, 0, nd, ⟨h1, h⟩, e => by
    have e : u = t := by simpa using e
    subst e
    obtain ⟨n1, n2⟩ := List.nodup_cons.mp nd
    exact ⟨⟨ws, upd_same, rw_⟩, NestR.mono (Same.refl _) (fun v hv => upd_ne fun e => n1 (by rw [← e]; exact hv)) h⟩
  | u :: ts, xs :: xss, j + 1, nd, ⟨⟨vs, h1, h2⟩, h⟩, e => by
    obtain ⟨n1, n2⟩ := List.nodup_cons.mp nd
    have e : ts[j]? = some t := by simpa using e
    have ne : u ≠ t := fun z => n1 (by rw [z]; exact List.mem_of_getElem? e)
    exact ⟨⟨vs, by rw [upd_ne ne]; exact h1, h2⟩, NestR.set rw_ n2 h e⟩
  | [], _ :: _, _, _, h, _ => nomatch h
  | _ :: _, [], _, _, h, _ => nomatch h
def NestP (xss : List (List D)) : Hp → Hp → V → Prop := fun G F v => ∃ p ts, v = .ref p ∧ F p = some (.lst (ts.map V.ref)) ∧ (p :: ts).Nodup ∧ NestR G F ts xss
/-- an own list of own lists -/
def nest (xss : List (List D)) : Sl := .ob (NestP xss)
theorem nest_mono {xss : List (List D)} {G G2 F : Hp} {v : V} (e : Same G G2) (h : NestP xss G F v) : NestP xss G2 F v := by
  obtain ⟨p, ts, h1, h2, h3, h4⟩ := h
  exact ⟨p, ts, h1, h2, h3, h4.mono e fun _ _ => rfl⟩
section
variable {E : Ent} {δ δ' : List Sl} {ta tb te tc : TE} {tt : TT} {d x y : D} {Φ : Out → Prop} {u : TS} {t : TA}
/-- an own thing lent -/
theorem St.shareG {σ : L2.St} {G H : Hp} {i : Nat} {P : Hp → Hp → V → Prop} (s : St E δ σ G H) (h : δ[i]? = some (.ob P)) (hp : ∀ F v, P G F v → (∀ a, F a ≠ none → G a = none) → Rp (jn G F) d v) :
    ∃ F, Same F H ∧ (∀ a, F a ≠ none → G a = none ∧ E.H a = none) ∧ St E (δ.set i (.d d)) σ (jn G F) H := by
  obtain ⟨o, ho⟩ := s.here h
  obtain ⟨F, q⟩ := s.rg
  obtain ⟨v, e, r⟩ := q.sl i _ o h ho
  have r := hp _ _ (r G (Same.refl G)) fun a ha => (q.out i a ha).1
  subst e
  have sg : Same G (jn G (F i)) := jn_l
  refine ⟨F i, q.in_ i, q.out i, s.g.trans sg, s.h, fun a ha ga => jn_none (s.n a ha ga) ?_, jn_in s.i (q.in_ i), by simp [s.len], fun j => if j = i then none0 else F j, ?_⟩
  · cases e : F i a with
    | none => rfl
    | some o => exact absurd (q.out i a (by rw [e]; simp)).2 ha
  · refine ⟨fun j => ?_, fun j a hf => ?_, fun j k a ne hf => ?_, fun j t o q1 q2 => ?_⟩
    · by_cases e : j = i
      · simp only [e, if_true]; exact fun _ _ y => nomatch y
      · simp only [e, if_false]; exact q.in_ j
    · by_cases e : j = i
      · simp only [e, if_true] at hf; exact absurd rfl hf
      · simp only [e, if_false] at hf
        have y := q.out j a hf
        exact ⟨jn_none y.1 (q.ap j i a e hf), y.2⟩
    · by_cases e : j = i
      · simp only [e, if_true] at hf; exact absurd rfl hf
      · simp only [e, if_false] at hf
        by_cases e2 : k = i
        · simp only [e2, if_true]; rfl
        · simp only [e2, if_false]; exact q.ap j k a ne hf
    · by_cases e : j = i
      · subst e
        simp only [if_true]
        rw [List.getElem?_set] at q1
        simp only [if_true] at q1
        split at q1
        · cases q1
          rw [ho] at q2; cases q2
          exact ⟨v, rfl, r⟩
        · cases q1
      · simp only [e, if_false]
        rw [List.getElem?_set_ne (Ne.symm e)] at q1
        exact (q.sl j t o q1 q2).mono sg
theorem nest_rp {xss : List (List D)} {G F : Hp} {v : V} (h : NestP xss G F v) (off : ∀ a, F a ≠ none → G a = none) : Rp (jn G F) (.list (xss.map .list)) v := by
  obtain ⟨p, ts, e, h1, _, h3⟩ := h
  have rr := jn_r off
  refine ⟨p, _, e, rr _ _ h1, ?_⟩
  clear h1 e
  have : ∀ {ts : List Addr} {xss : List (List D)}, NestR G F ts xss → RpA (jn G F) (xss.map .list) (ts.map V.ref) := by
    intro ts
    induction ts with
    | nil =>
      intro xss h
      cases xss with
      | nil => rfl
      | cons _ _ => exact h.elim
    | cons t ts ih =>
      intro xss h
      cases xss with
      | nil => exact h.elim
      | cons xs xss =>
        obtain ⟨⟨vs, a, b⟩, c⟩ := h
        exact ⟨_, _, rfl, ⟨t, vs, rfl, rr _ _ a, RpA.mono jn_l _ _ b⟩, ih c⟩
  exact this h3
theorem Et.lendM {b : Bool} {i : Nat} {xss : List (List D)} (o : δ[i]? = some (nest xss)) (h : Et E tt (δ.set i (.d (.list (xss.map .list)))) b) : Et E tt δ b := fun σ G H Q s k => by
  obtain ⟨F, _, _, s'⟩ := s.shareG o fun F v p off => nest_rp p off
  exact h σ _ H Q s' fun G2 H2 g => k G H2 (Gr.side s.i g.h)
theorem Ev.lendM {i : Nat} {xss : List (List D)} (o : δ[i]? = some (nest xss)) (h : Ev E te (δ.set i (.d (.list (xss.map .list)))) d) (hs : scalD d = true) : Ev E te δ d := fun σ G H Q s k => by
  obtain ⟨F, _, _, s'⟩ := s.shareG o fun F v p off => nest_rp p off
  exact h σ _ H Q s' fun v G2 H2 g r => k v G H2 (Gr.side s.i g.h) (scal_rp hs r)
theorem xs_shareM {i : Nat} {xss : List (List D)} (o : δ[i]? = some (nest xss)) (h : Xs E u (δ.set i (.d (.list (xss.map .list)))) Φ) : Xs E u δ Φ := fun σ G H X s p => by
  obtain ⟨F, _, _, s'⟩ := s.shareG o fun F v p off => nest_rp p off
  exact h σ _ H X s' fun o q => (p o q).mono jn_l
/-- xs = [] -/
theorem xs_asgNest {i : Nat} (k : Φ (.nx (δ.set i (nest [])))) : Xs E (tAsg (tLst tNil) (gName i)) δ Φ := fun σ G H X s p => evF_lst (E := E) ed_nil (by decide) σ G H _ s fun q vs G1 H1 g hq gq h2 r => by
  cases r
  have e : Same (sing q (.lst [])) H1 := sing_in h2
  refine p _ k _ G1 H1 g.g (s.put g i (nest []) (some (.ref q)) (sing q (.lst [])) e (fun a ha => ?_) ⟨_, rfl, fun G' _ => ⟨q, [], rfl, sing_self, by simp, trivial⟩⟩)
  have := sing_ne ha
  subst this
  exact ⟨hq, gq⟩
theorem q_asgNest {i : Nat} (k : Xs E u (δ.set i (nest [])) Φ) : Xs E (tSeq (tAsg (tLst tNil) (gName i)) u) δ Φ := xs_seq (xs_asgNest k)
/-- the slot's region, opened -/
theorem St.atNest {σ : L2.St} {G H : Hp} {i : Nat} {xss : List (List D)} (s : St E δ σ G H) (h0 : δ[i]? = some (nest xss)) : ∃ p ts F, σ[i]? = some (some (.ref p)) ∧ Reg E δ σ G H F ∧ F i p = some (.lst (ts.map V.ref)) ∧ (p :: ts).Nodup ∧ NestR G (F i) ts xss := by
  obtain ⟨o, ho⟩ := s.here h0
  obtain ⟨F, q⟩ := s.rg
  obtain ⟨v, e, hs⟩ := q.sl i _ o h0 ho
  subst e
  obtain ⟨p, ts, e, h1, h2, h3⟩ := hs G (Same.refl G)
  subst e
  exact ⟨p, ts, F, ho, q, h1, h2, h3⟩
/-- xs.append([..]) -/
theorem evM_nestPush {i : Nat} {xss : List (List D)} {xs : List D} (h0 : δ[i]? = some (nest xss)) (ha : EvF E te δ xs) (hz : xss.length < 100000) : EvM E (tBM E.K "list" rAppend (tVar i) (tCons te tNil)) δ (δ.set i (nest (xss ++ [xs]))) .none := fun σ G H Q s k => by
  obtain ⟨p, ts, F, ho, q, h1, h3, h4⟩ := s.atNest h0
  have hp := q.in_ i _ _ h1
  refine ⟨.ref p, ho, .inl ⟨rfl, _, SqL.of hp⟩, ha σ G H _ s fun a vs G2 H2 g hpn gpn h2 r => ?_⟩
  have hp2 := g.h _ _ hp
  have hap : a ≠ p := fun e => by rw [e, hp] at hpn; cases hpn
  have hFa : F i a = none := by
    cases e : F i a with
    | none => rfl
    | some o => rw [q.in_ i _ _ e] at hpn; cases hpn
  have z := q.out i p (by rw [h1]; simp)
  have gp2 : G2 p = none := g.n p (by rw [hp]; simp) z.1
  have hat : ¬ a ∈ p :: ts := fun c => by
    rcases List.mem_cons.mp c with c | c
    · exact hap c
    · obtain ⟨j, hj⟩ := List.mem_iff_getElem?.mp c
      have hjl : j < xss.length := by rw [← h4.len]; exact (List.getElem?_eq_some_iff.mp hj).1
      obtain ⟨t, ws, k1, k2, _⟩ := h4.get (List.getElem?_eq_getElem hjl)
      rw [hj] at k1; cases k1
      rw [hFa] at k2; cases k2
  refine ⟨p, ts.map V.ref, .ref a, rfl, rfl, hp2, by rw [List.length_map, h4.len]; exact Nat.lt_of_lt_of_le hz (by decide), ?_⟩
  have i3 : Same G2 (upd H2 p (.lst (ts.map V.ref ++ [V.ref a]))) := same_mut g.i gp2
  have := q.step s.i i (nest (xss ++ [xs])) (some (.ref p)) (upd (upd (F i) a (.lst vs)) p (.lst (ts.map V.ref ++ [V.ref a]))) g.g i3 g.n (fun b o hb hf => by
    have ne : b ≠ p := fun e => by rw [e, h1] at hf; cases hf
    rw [upd_ne ne]; exact g.h b o hb) (fun b o hb => by
    by_cases e : b = p
    · subst e; rw [upd_same] at hb ⊢; exact hb
    · rw [upd_ne e] at hb ⊢
      by_cases e2 : b = a
      · subst e2; rw [upd_same] at hb; cases hb; exact h2
      · rw [upd_ne e2] at hb; exact g.h _ _ (q.in_ i b o hb)) (fun b hb => by
    by_cases e : b = p
    · subst e; exact ⟨gp2, z.2⟩
    · rw [upd_ne e] at hb
      by_cases e2 : b = a
      · subst e2; exact ⟨gpn, s.h.free hpn⟩
      · rw [upd_ne e2] at hb
        have y := q.out i b hb
        exact ⟨g.n b (not_none (q.in_ i) hb) y.1, y.2⟩) (fun b hb => by
    by_cases e : b = p
    · subst e; exact .inl (by rw [h1]; simp)
    · rw [upd_ne e] at hb
      by_cases e2 : b = a
      · subst e2; exact .inr hpn
      · rw [upd_ne e2] at hb; exact .inl hb) ⟨.ref p, rfl, fun G' eg => ⟨p, ts ++ [a], rfl, by rw [upd_same, List.map_append]; rfl, by
        rw [← List.cons_append, List.nodup_append]
        exact ⟨h3, by simp, fun x hx y hy e => hat (by rw [List.mem_singleton] at hy; rw [← hy, ← e]; exact hx)⟩, ?_⟩⟩
  · rw [set_get ho] at this
    exact k _ G2 _ g.g ⟨s.g.trans g.g, same_mut (s.h.trans g.h) z.2, fun b hb gb => g.n b (not_none s.h hb) (s.n b hb gb), i3, by simp [s.len], _, this⟩ rfl
  · have np : ¬ p ∈ ts := (List.nodup_cons.mp h3).1
    refine NestR.snoc ⟨vs, by rw [upd_ne hap]; exact upd_same, RpA.mono eg _ _ r⟩ (h4.mono (g.g.trans eg) fun t ht => ?_)
    rw [upd_ne (fun e => np (by rw [← e]; exact ht)), upd_ne (fun e => hat (by rw [← e]; exact List.mem_cons_of_mem _ ht))]
/-- xs[j].append(d) -/
theorem evM_nestApp {i j : Nat} {z : Int} {xss : List (List D)} {xs : List D} (h0 : δ[i]? = some (nest xss)) (hb : Ev E tb δ (.int z)) (hj : z = (j : Int)) (hx : xss[j]? = some xs) (ha : Ev E te δ d) (hz : xs.length < 100000) :
    EvM E (tBM E.K "list" rAppend (tOp (rIxL E.K) (tVar i) tb) (tCons te tNil)) δ (δ.set i (nest (xss.set j (xs ++ [d])))) .none := fun σ G H Q s k => by
  obtain ⟨p, ts, F, ho, q, h1, h3, h4⟩ := s.atNest h0
  have hp := q.in_ i _ _ h1
  refine ⟨.ref p, ho, hb σ G H _ s fun y G1 H1 g1 r1 => ?_⟩
  subst hj
  have r1 : y = .int (j : Int) := r1
  subst r1
  obtain ⟨t, vs, k1, k2, k3⟩ := h4.get hx
  have ht := q.in_ i _ _ k2
  refine ⟨p, ts.map V.ref, (j : Int), .ref t, rfl, rfl, SqL.of (g1.h _ _ hp), atI_nat (by rw [List.getElem?_map, k1]; rfl), .inl ⟨rfl, _, SqL.of (g1.h _ _ ht)⟩, ha σ G1 H1 _ (s.grow g1) fun v G2 H2 g2 r2 => ?_⟩
  have g := g1.trans g2
  have zt := q.out i t (by rw [k2]; simp)
  have gt2 : G2 t = none := g.n t (by rw [ht]; simp) zt.1
  have k3' := RpA.mono g.g _ _ k3
  have i3 : Same G2 (upd H2 t (.lst (vs ++ [v]))) := same_mut g.i gt2
  have htm : t ∈ ts := List.mem_of_getElem? k1
  obtain ⟨np, ntd⟩ := List.nodup_cons.mp h3
  have npt : p ≠ t := fun e => np (by rw [e]; exact htm)
  refine ⟨t, vs, v, rfl, rfl, g.h _ _ ht, by rw [k3.len]; exact Nat.lt_of_lt_of_le hz (by decide), ?_⟩
  have := q.step s.i i (nest (xss.set j (xs ++ [d]))) (some (.ref p)) (upd (F i) t (.lst (vs ++ [v]))) g.g i3 g.n (fun b o hb' hf => by
    have ne : b ≠ t := fun e => by rw [e, k2] at hf; cases hf
    rw [upd_ne ne]; exact g.h b o hb') (fun b o hb' => by
    by_cases e : b = t
    · subst e; rw [upd_same] at hb' ⊢; exact hb'
    · rw [upd_ne e] at hb' ⊢; exact g.h _ _ (q.in_ i b o hb')) (fun b hb' => by
    by_cases e : b = t
    · subst e; exact ⟨gt2, zt.2⟩
    · rw [upd_ne e] at hb'
      have y := q.out i b hb'
      exact ⟨g.n b (not_none (q.in_ i) hb') y.1, y.2⟩) (fun b hb' => by
    by_cases e : b = t
    · subst e; exact .inl (by rw [k2]; simp)
    · rw [upd_ne e] at hb'; exact .inl hb') ⟨.ref p, rfl, fun G' eg => ⟨p, ts, rfl, by rw [upd_ne npt]; exact h1, h3, NestR.set ((RpA.mono eg _ _ k3').snoc (Rp.mono eg _ _ r2)) ntd (h4.mono (g.g.trans eg) fun _ _ => rfl) k1⟩⟩
  rw [set_get ho] at this
  exact k _ G2 _ g.g ⟨s.g.trans g.g, same_mut (s.h.trans g.h) zt.2, fun b hb gb => g.n b (not_none s.h hb) (s.n b hb gb), i3, by simp [s.len], _, this⟩ rfl
/-- xs.extend(ys) -/
theorem evM_extend {n : Nat} {xs ys : List D} (h0 : δ[n]? = some (.ow xs)) (ha : Ev E te δ (.list ys)) (hz : xs.length + ys.length ≤ 2000000) : EvM E (tBM E.K "list" rExtend (tVar n) (tCons te tNil)) δ (δ.set n (.ow (xs ++ ys))) .none := fun σ G H Q s k => by
  obtain ⟨p, vs, ho, h1, h2, h3, h4⟩ := s.atOw h0
  refine ⟨.ref p, ho, .inl ⟨rfl, _, SqL.of h1⟩, ha σ G H _ s fun v G2 H2 g r => ?_⟩
  have s2 := s.grow g
  obtain ⟨b, us, e, h5, h6⟩ := r
  subst e
  have h2' := RpA.mono g.g _ _ h2
  exact ⟨p, b, vs, us, rfl, rfl, g.h _ _ h1, g.i _ _ h5, by rw [h2'.len, h6.len]; exact Nat.le_trans hz (by decide), k _ G2 _ g.g (s2.mutate h0 ho (h2'.append h6)) rfl⟩

/-! ### a call whose answer is known by a property only -/
def spX (K : PySem.W.Frag) (Pre : List Sl → Prop) (R : List Sl → D → Prop) : Sp := fun vs H Q _ => ∃ G as, Same G H ∧ ArgsR K G H as vs ∧ Pre as ∧ ∀ d v G2 H2, R as d → Gr G H G2 H2 → Rp G2 d v → Q v H2
theorem q_asgX {Pre : List Sl → Prop} {R : List Sl → D → Prop} {as : List Sl} {i : Nat} {XE : XK} (h : Ea E t δ as) (hp : Pre as) (k : ∀ d, R as d → Xs E u (δ.set i (.d d)) Φ) : Xs E (tSeq (tAsg (tCall (spX E.K Pre R) [] XE t) (gName i)) u) δ Φ := fun σ G H X s p =>
  h σ G H _ s fun us G1 H1 g1 r1 => by
    rw [List.append_nil]
    refine ⟨G1, as, g1.i, r1, hp, fun d v G2 H2 hd g2 r2 => ?_⟩
    exact k d hd _ G2 H2 X ((s.grow (g1.trans g2)).setD i r2) fun o q => (p o q).mono (g1.trans g2).g
theorem spX_run {K : PySem.W.Frag} {Pre : List Sl → Prop} {R : List Sl → D → Prop} {t : TS} {N : List Str} {vs : List V} {H : Hp} {Q : VK} {XE : XK} (hsp : spX K Pre R vs H Q XE) (hn : vs.length ≤ N.length)
    (h : ∀ as, Pre as → ∀ E : Ent, E.K = K → Xs E t (argSl as (N.length - as.length)) fun o => ∃ d, R as d ∧ o = .rt d) : t { nx := fun _ H' => Q .non H', rt := Q } (start N vs) H := by
  obtain ⟨G, as, i, r, hp, k⟩ := hsp
  refine h as hp ⟨K, G, H⟩ rfl (start N vs) G H _ (st_start i r hn) fun o e => ?_
  obtain ⟨d, hd, e⟩ := e
  subst e
  exact fun v G' H' g r => k d v G' H' hd g r
theorem spX_len {K : PySem.W.Frag} {Pre : List Sl → Prop} {R : List Sl → D → Prop} {n : Nat} {vs : List V} {H : Hp} {Q : VK} {XE : XK} (hsp : spX K Pre R vs H Q XE) (h : ∀ as, Pre as → as.length = n) : vs.length = n := by
  obtain ⟨G, as, i, r, hp, k⟩ := hsp
  rw [r.len, h as hp]
end
end PL

/-! PExc: defs that may raise: their calls, raise, what of it is seen on data. -/
namespace PL
open PySem PySem.Spec PyProof.Rows L2
/-- a def that may be called by its name, and may raise -/
structure ClX (P : Program) (w : World) (K : PySem.W.Frag) (mg : Str → Option Value) (base : Heap) (k : Nat) (x : Str) (sp : Sp) : Prop where
  ex : ∃ (f : Addr) (fd : FuncData) (ps : List Str), FnOk P w K mg base (L2.CX P w) k f fd ps sp ∧ mg x = some (.ref f) ∧ PySem.W.keepIn K (.ref f) = true ∧ Binds K fd ps []
section
variable {X : Cx} {k j : Nat} {sp : Sp} {x : Str} {p pos : Pos} {e : Expr} {es : List Expr} {t : TA} {W : WX} {E : XK}
/-- a call in a def that lets the exception out -/
theorem pe_clX (c : ClX X.prog X.w X.K X.mg X.base k x sp) (hr : Room j X.A) (hk : k ≤ j) (hg : Gl X x) (tk : Takes X (fun cls d _ H => E cls d H)) (ha : PA X (e :: es) t)
    (hdb : (x == ("__debug__" : Str)) = false := by decide) (he : starEach (e :: es) X.env = (false, eval e X.env) :: starEach es X.env := by rfl) (hpl : (backTo pos (starEach es X.env)).any (·.1) = false := by rfl) :
    PE X (.Call (.Name x p) (e :: es) [] pos) (tCall sp [] E t) := by
  obtain ⟨f, fd, ps, F, hm, kp, b⟩ := c.ex
  exact pe_call F (hr.mono hk) hg hm kp b .nil (passes_call tk fun _ _ _ _ h => h) ha hdb he hpl
/-- a call within a try -/
theorem pe_clS (c : ClX X.prog X.w X.K X.mg X.base k x sp) (hr : Room j X.A) (hk : k ≤ j) (hg : Gl X x) (tk : Takes X W) (ha : PA X (e :: es) t)
    (hdb : (x == ("__debug__" : Str)) = false := by decide) (he : starEach (e :: es) X.env = (false, eval e X.env) :: starEach es X.env := by rfl) (hpl : (backTo pos (starEach es X.env)).any (·.1) = false := by rfl) :
    PE X (.Call (.Name x p) (e :: es) [] pos) (tCallS sp (WE W) t) := by
  obtain ⟨f, fd, ps, F, hm, kp, b⟩ := c.ex
  exact pe_callS F (hr.mono hk) hg hm kp b (fun σ => passAt tk σ) ha hdb he hpl
end
section
variable {P : Program} {w : World} {K : PySem.W.Frag} {mg : Str → Option Value} {base : Heap}
theorem cl_ofX {x : Str} {st : Stmt} {N ps : List Str} {k : Nat} {sp : Sp} (F : Fd K mg x st) (S : FnScope N ps (defScope st)) (len : ∀ vs H Q E, sp vs H Q E → vs.length = ps.length)
    (hb : ∀ (kV doc pm : Value) (an : Option Addr) (cdv ct : Value) (us : List Value), us.length = ps.length → bindArgs (PySem.W.fnOf x x (defArgs st) (defBody st) (defScope st) .none kV doc pm an cdv ct) ⟨us, []⟩ = pure (ps.zip us))
    (hbody : ∀ (f : Addr) (cdv : Value) (A : Around) (outer : List Env) (s : Shared) (H : Hp) (vs : List V) (Q : VK) (E : XK), Room k (A.deeper (envOfC x (defScope st) s.heap.objs.size f cdv)) → sp vs H Q E →
      ∃ t, PSs (cxOf (L2.CX P w) P w K mg base N x (defScope st) f cdv A outer s H E) (defBody st) t ∧ t { nx := fun _ H' => Q .non H', rt := Q } (start N vs) H) : ClX P w K mg base (k + 1) x sp := by
  obtain ⟨f, fd, fn, m⟩ := F.ex
  exact ⟨f, fd, ps, fn.okX S len fun cdv A outer s H vs Q E hr hs => hbody f cdv A outer s H vs Q E hr hs, m, fn.kp, fn.binds hb⟩
end
/-- raise: the def's wish -/
def tRaise (W : XK) (c : Value) : TS := fun _ _ H => W c none H
/-- an expression that is never reached -/
def tNeverE : TE := fun _ _ _ => False
theorem pe_neverE {X : Cx} {e : Expr} : PE X e tNeverE := ⟨fun _ _ _ _ _ _ h => h.elim⟩
/-- may answer, may raise -/
def spU (K : PySem.W.Frag) (R : List Sl → D → Prop) (C : List Sl → Value → Prop) : Sp := fun vs H Q E => ∃ G as, Same G H ∧ ArgsR K G H as vs ∧
  ((∃ d, R as d ∧ ∀ v G2 H2, Gr G H G2 H2 → Rp G2 d v → Q v H2) ∨ ∃ c, C as c ∧ ∀ G2 H2, Gr G H G2 H2 → E c none H2)
/-- an expression that raises: what is wished of it is not asked -/
def EvX (E : Ent) (te : TE) (δ : List Sl) : Prop := ∀ σ G H Q, St E δ σ G H → te σ H Q
/-- the wish is met wherever the entry's heap has only grown -/
def Wm (E : Ent) (W : XK) (c : Value) : Prop := ∀ G2 H2, Gr E.G E.H G2 H2 → W c none H2
section
variable {E : Ent} {δ : List Sl} {te ta tb : TE} {d : D} {Φ : Out → Prop} {t : TA} {as : List Sl} {R : List Sl → D → Prop} {C : List Sl → Value → Prop} {W : XK} {c : Value} {u : TS}
theorem ev_callU (h : Ea E t δ as) (hR : R as d) : Ev E (tCall (spU E.K R C) [] W t) δ d := fun σ G H Q s k => h σ G H _ s fun us G1 H1 g1 r1 => by
  rw [List.append_nil]
  exact ⟨G1, as, g1.i, r1, .inl ⟨d, hR, fun v G2 H2 g2 r2 => k v G2 H2 (g1.trans g2) r2⟩⟩
theorem evX_call (h : Ea E t δ as) (hC : C as c) (hW : Wm E W c) : EvX E (tCall (spU E.K R C) [] W t) δ := fun σ G H Q s => h σ G H _ s fun us G1 H1 g1 r1 => by
  rw [List.append_nil]
  exact ⟨G1, as, g1.i, r1, .inr ⟨c, hC, fun G2 H2 g2 => hW G2 H2 (s.gr.trans (g1.trans g2))⟩⟩
theorem xs_raise (hW : Wm E W c) : Xs E (tRaise W c) δ Φ := fun σ G H X s p => hW G H s.gr
theorem xs_dropX (h : EvX E te δ) : Xs E (tDrop te) δ Φ := fun σ G H X s p => h σ G H _ s
theorem xs_asgE {g : TG} (h : EvX E te δ) : Xs E (tAsg te g) δ Φ := fun σ G H X s p => h σ G H _ s
theorem xs_retX (h : EvX E te δ) : Xs E (tRet te) δ Φ := fun σ G H X s p => h σ G H _ s
theorem xs_ifX {tt : TT} {t u : TS} (h : ∀ σ G H Q, St E δ σ G H → tt σ H Q) : Xs E (tIfS tt t u) δ Φ := fun σ G H X s p => h σ G H _ s
theorem spU_run {K : PySem.W.Frag} {t : TS} {N : List Str} {vs : List V} {H : Hp} {Q : VK} {XE : XK} (hsp : spU K R C vs H Q XE) (hn : vs.length ≤ N.length)
    (h1 : ∀ as d, R as d → ∀ E : Ent, E.K = K → Xs E t (argSl as (N.length - as.length)) (RetOk d))
    (h2 : ∀ as c, C as c → ∀ E : Ent, E.K = K → Wm E XE c → Xs E t (argSl as (N.length - as.length)) fun _ => False) : t { nx := fun _ H' => Q .non H', rt := Q } (start N vs) H := by
  obtain ⟨G, as, i, r, h | h⟩ := hsp
  · obtain ⟨d, hR, k⟩ := h
    exact spR_run (R := R) (XE := XE) ⟨G, as, d, i, r, hR, k⟩ hn h1
  · obtain ⟨c, hC, k⟩ := h
    exact h2 as c hC ⟨K, G, H⟩ rfl k (start N vs) G H _ (st_start i r hn) fun o e => e.elim
theorem spU_len {K : PySem.W.Frag} {n : Nat} {vs : List V} {H : Hp} {Q : VK} {XE : XK} (hsp : spU K R C vs H Q XE) (h1 : ∀ as d, R as d → as.length = n) (h2 : ∀ as c, C as c → as.length = n) : vs.length = n := by
  obtain ⟨G, as, i, r, h | h⟩ := hsp
  · obtain ⟨d, hR, k⟩ := h; rw [r.len, h1 as d hR]
  · obtain ⟨c, hC, k⟩ := h; rw [r.len, h2 as c hC]
end
end PL

/-! PTry: except X as n, the caught object kept behind the suite: its class is known. -/
namespace PL
open PySem PySem.Spec PyProof.Rows L2
/-- at a: an object of the class cls -/
def ExC (cls : Value) (d : Option Addr) (a : Addr) : HO := .ext fun h => ∃ (oe : Obj) (vs : Array Value), h.get? a = some oe ∧ Zc cls d oe ∧ oe.data = .fields vs
section
variable {X : Cx} {pins : List (Addr × Obj)} {σ : L2.St} {H : Hp} {s : Shared}
/-- an object that nothing is said of is spoken of from here on -/
theorem track {a : Addr} {cls : Value} {d : Option Addr} {oe : Obj} {vs : Array Value} (I : Inv X pins σ H s) (he : s.heap.get? a = some oe) (hc : Zc cls d oe) (hv : oe.data = .fields vs) (na : H a = none) (n0 : X.s_0.heap.get? a = none) (nL : a ≠ X.env.locals) (nc : ∀ v, oe.data ≠ .cell v)
    (np : ∀ p ∈ X.pn ++ pins, p.1 ≠ a) : Inv X pins σ (upd H a (ExC cls d a)) s where
  ok := I.ok
  os := I.os
  bare := I.bare
  base := {
    keep := fun b o e n hb hx => I.base.keep b o e n hb hx
    slot := fun b o e n hb hx => I.base.slot b o e n hb hx
    free := fun b o e n hx => by
      rw [upd_ne fun z => by rw [z, n0] at e; cases e]
      exact I.base.free b o e n hx
    there := fun b o e hx => I.base.there b o e hx
    tups := fun b xs e => by
      have q := I.base.tups b xs e
      rw [upd_ne fun z => by rw [z, na] at q; cases q]
      exact q
    frzs := fun b u xs e => by
      have q := I.base.frzs b u xs e
      rw [upd_ne fun z => by rw [z, na] at q; cases q]
      exact q
    tbls := fun b ps e => by
      obtain ⟨more, q⟩ := I.base.tbls b ps e
      exact ⟨more, by rw [upd_ne fun z => by rw [z, na] at q; cases q]; exact q⟩ }
  loc := I.loc
  cell := I.cell
  free := by rw [upd_ne (Ne.symm nL)]; exact I.free
  freeC := fun x c e => by
    rw [upd_ne fun z => by
      obtain ⟨v, q⟩ := I.cell x c e
      rw [z] at q
      obtain ⟨o, q1, q2⟩ := id q
      rw [he] at q1
      cases q1
      exact nc _ q2]
    exact I.freeC x c e
  pin := fun p hp => by
    obtain ⟨q1, q2, q3⟩ := I.pin p hp
    exact ⟨q1, by rw [upd_ne (np p hp)]; exact q2, q3⟩
  hok := I.hok.laidN (fun _ _ e => e) na ⟨⟨oe, vs, he, hc, hv⟩, ⟨oe, he⟩, fun h1 h2 ⟨o, v, q1, q2⟩ k => ⟨o, v, k o q1, q2⟩⟩
  len := I.len
end
end PL
namespace PL
open PySem PySem.Spec PyProof.Rows L2
/-- as wAs; the object stands in the heap that is spoken of behind the suite -/
def wKeep (K : PySem.W.Frag) (c : Value) (i : Nat) (ts : Addr → Value → Option Addr → TS) (D : Ends) : WX := fun cls d σ H =>
  PySem.W.exmOne K cls c = some true ∧ ∀ a, H a = none → ts a cls d { nx := fun σ' H' => H' a = none → D.nx (σ'.set i none) (upd H' a (ExC cls d a)), rt := fun _ _ => False, bk := fun _ _ => False, ct := fun _ _ => False } (σ.set i (some (.ref a))) H
section
variable {X : Cx} {x n : Str} {c : Value} {i : Nat} {body suite : List Stmt} {b₀ : Stmt} {npos pos pos' : Pos} {tb : WX → TS} {ts : Addr → Value → Option Addr → TS}
theorem ps_try_keep (hex : X.ex = []) (hs : X.stack = X.env :: X.outer) (hf : X.env.frame = some X.env.locals) (hN : X.N.Nodup) (hi : X.N[i]? = some n) (hln : X.env.kindOf n = some .local) (hc : Names X x c)
    (hb : ∀ (W : WX) (pn : List (Addr × Obj)) (xe : Value → Shared → Prop), Takes (X.tr pn xe) W → PassesOwn (model X.prog X.w) X.A X.env xe → PSs (X.tr pn xe) body (tb W))
    (hsu : ∀ (a : Addr) (oe : Obj) (cls : Value) (d : Option Addr) (pn : List (Addr × Obj)), Zc cls d oe → (∃ vs, oe.data = .fields vs) → PSs (X.suite a ((a, oe) :: pn)) (b₀ :: suite) (ts a cls d)) :
    PS X (.Try body [.ExceptHandler (some (.Name x npos)) (some n) (b₀ :: suite) pos'] [] [] pos) (fun D σ H => tb (wKeep X.K c i ts D) D σ H) := by
  constructor
  intro pins s σ H D I h
  have ok := I.ok
  have frames : X.A.frames = some (X.env :: X.outer) := by rw [ok.frames, hs]
  apply wpAny_Try_except
  -- the body, what it lets out goes to the clause
  have BODY := (hb (wKeep X.K c i ts D) (X.pn ++ pins) (fun e s₁ => wpAny (model X.prog X.w) X.A (noteFrame e X.env) (fun _ s₂ => wpAny (model X.prog X.w) X.A (setFlight e none) (fun _ s₃ =>
    wpAny (model X.prog X.w) X.A (handleBy e X.env [.ExceptHandler (some (.Name x npos)) (some n) (b₀ :: suite) pos']) (SP X pins D) X.xe s₃) X.xe s₂) X.xe s₁) ?lets PassesOwn.looking).run [] s σ H D (I.toTry _) h
  case lets =>
    rintro u s' ⟨a, B, sI, pins', σ', H', cls, d, rfl, J', nb, up, sky, na, os, ag, hb1, hyes⟩
    have J : Inv X pins σ' H' sI := J'.ofTry ok
    have skyE : Sky B (X.env :: X.outer) a (Zc cls d) X.env.locals s'.heap := hs ▸ sky
    have Ba : B.get? a = none := by
      rcases sky with q | q | q
      · exact q.2.1
      · exact q.2.1
      · exact q.2.1
    refine Sky.land Zc.steady frames hf skyE fun h3 fl3 up3 => ?_
    have J3 : Inv X pins σ' H' { s' with heap := h3 } := J.landed nb fl3.1 (up.trans up3) os ag
    obtain ⟨oe3, vs3, he3, hz3, hd3⟩ := fl3.there
    have nfr : a ∉ frs (X.env :: X.outer) := fun hm => by
      obtain ⟨_, o', e', hnf⟩ := fl3.2.2.1.mem hm
      rw [he3] at e'
      cases e'
      exact hnf _ hd3
    have nL : a ≠ X.env.locals := fun z => nfr (List.mem_filterMap.mpr ⟨X.env, List.mem_cons_self, by rw [hf, z]⟩)
    have nF : a ∉ X.fs := fun hm => by
      obtain ⟨e, he, q⟩ := List.mem_filterMap.mp hm
      exact nfr (List.mem_filterMap.mpr ⟨e, List.mem_cons_of_mem _ he, q⟩)
    -- the object is new
    have old : ∀ b o, sI.heap.get? b = some o → b ∉ frs X.stack → b ≠ a := fun b o e hnb z => by
      have q := nb b o e hnb
      rw [z, Ba] at q
      cases q
    have nst : a ∉ frs X.stack := by rw [hs]; exact nfr
    have n0 : X.s_0.heap.get? a = none := by
      cases q : X.s_0.heap.get? a with
      | none => rfl
      | some o =>
        obtain ⟨o', e'⟩ := J.base.there a o q (by rw [hex]; simp)
        exact absurd rfl (old a o' e' nst)
    have np : ∀ p ∈ X.pn ++ pins, p.1 ≠ a := fun p hp => by
      obtain ⟨q1, q2, q3, q4, _⟩ := J.pin p hp
      refine old p.1 p.2 q1 fun hm => ?_
      rw [hs] at hm
      obtain ⟨e, he, q⟩ := List.mem_filterMap.mp hm
      rcases List.mem_cons.mp he with z | z
      · rw [z, hf] at q
        exact q3 (Option.some.inj q).symm
      · exact q4 (List.mem_filterMap.mpr ⟨e, z, q⟩)
    have S3 := J3.suite he3 hd3 na nL nF
    refine wpAny_handleBy_cons (codeAny_handlers_test ?_) (by intro q; cases q)
    have LT : PySem.W.Looks (model X.prog X.w) h3 (typeOf (.ref a)) cls := fun A Q E s k q => wpAny_typeOf_ref (k _ _ he3) (by rw [hz3.1]; exact q)
    have LM := PySem.W.exm_one (M := model X.prog X.w) J3.kIn LT hb1
    have named : ∀ {Q : Value → Shared → Prop} {E : Value → Shared → Prop}, Q c { s' with heap := h3 } → wpAny (model X.prog X.w) (X.A.mark (some (.ref a))) (eval (.Name x npos) X.env) Q E { s' with heap := h3 } := by
      intro Q E q
      obtain ⟨hg, hdbg, hm | ⟨hm, hv, hnn⟩⟩ := hc
      · exact ld_glob (X := X.suite a ((a, oe3) :: (X.pn ++ pins))) S3 hg hm q hdbg
      · exact ld_blt (X := X.suite a ((a, oe3) :: (X.pn ++ pins))) S3 hg hm hv q hnn hdbg
    refine named (LM.here ?_)
    refine codeAny_handlers_suite_as (HandSPX.lands_againZ fl3 fun h4 fl4 up4 => ?_)
    have J4 : Inv X pins σ' H' { s' with heap := h4 } := J.landed nb fl4.1 ((up.trans up3).trans up4) os ag
    obtain ⟨oe4, vs4, he4, hz4, hd4⟩ := fl4.there
    have S4 := J4.suite he4 hd4 na nL nF
    refine store_ok (X := X.suite a ((a, oe4) :: (X.pn ++ pins))) (v := .ref a) S4 hN hi (.inl hln) rfl (fun s5 S5 => ?_) (.inr hln)
    refine wpAny_mono ((hsu a oe4 cls d (X.pn ++ pins) hz4 ⟨_, hd4⟩).run [] s5 _ H' _ S5 (hyes a na)) (fun f s6 hsp => ?_) fun _ _ z => False.elim z
    cases f with
    | next =>
      obtain ⟨σ6, H6, S6, q6⟩ := hsp
      have P6 := S6.pin (a, oe4) (by simp)
      have J6 : Inv X ((a, oe4) :: pins) σ6 H6 s6 := ⟨ok, S6.os, S6.bare, S6.base, S6.loc, S6.cell, S6.free, S6.freeC, fun p hp => S6.pin p (by
        rw [List.append_nil]
        rcases List.mem_append.mp hp with z | z
        · exact List.mem_cons_of_mem _ (List.mem_append_left _ z)
        · rcases List.mem_cons.mp z with z | z
          · rw [z]; exact List.mem_cons_self
          · exact List.mem_cons_of_mem _ (List.mem_append_right _ z)), S6.hok, S6.len⟩
      refine gone_ok J6 hN hi hln fun s7 J7 => ?_
      have P7 := J7.pin (a, oe4) (List.mem_append_right _ List.mem_cons_self)
      have J8 : Inv X pins (σ6.set i none) H6 s7 := ⟨ok, J7.os, J7.bare, J7.base, J7.loc, J7.cell, J7.free, J7.freeC, fun p hp => J7.pin p (by
        rcases List.mem_append.mp hp with z | z
        · exact List.mem_append_left _ z
        · exact List.mem_append_right _ (List.mem_cons_of_mem _ z)), J7.hok, J7.len⟩
      exact ⟨_, _, track J8 P7.1 hz4 hd4 P7.2.1 n0 nL P7.2.2.2.2 np, q6 P7.2.1⟩
    | brk =>
      obtain ⟨σ6, H6, S6, q6⟩ := hsp
      exact q6.elim
    | cont =>
      obtain ⟨σ6, H6, S6, q6⟩ := hsp
      exact q6.elim
    | ret u =>
      obtain ⟨v6, σ6, H6, S6, r6, q6⟩ := hsp
      exact q6.elim
  refine wpAny_mono BODY (fun f s1 hsp => ?_) fun e s1 he => he
  cases f with
  | next =>
    obtain ⟨σ', H', J', q⟩ := hsp
    exact wpAny_execs_nil ⟨σ', H', J'.ofTry ok, q⟩
  | brk =>
    obtain ⟨σ', H', J', q⟩ := hsp
    exact ⟨σ', H', J'.ofTry ok, q⟩
  | cont =>
    obtain ⟨σ', H', J', q⟩ := hsp
    exact ⟨σ', H', J'.ofTry ok, q⟩
  | ret u =>
    obtain ⟨v, σ', H', J', r, q⟩ := hsp
    exact ⟨v, σ', H', J'.ofTry ok, r, q⟩
end
/-- isinstance(e, C), e a kept exception, C a class -/
def rIsK (K : PySem.W.Frag) (D : Addr) : List V → Hp → VK → Prop := fun xs H Q => ∃ (a : Addr) (c : V) (cv : Value) (b : Bool), xs = [.ref a, c] ∧ H a = some (ExC (.ref D) none a) ∧ (∀ u, RelV c u → u = cv) ∧ PySem.W.kitOne K (.ref D) cv = some b ∧ Q (.bl b) H
theorem call_isK {X : Cx} {D : Addr} (C : ExcC X.K D) : CallR X (.builtin "isinstance") (rIsK X.K D) := by
  intro pins s σ H xs us Q I r h
  obtain ⟨a, c, cv, b, rfl, ha, hcv, e, q⟩ := h
  cases r with
  | cons rx rr =>
    cases rr with
    | cons rt rr =>
      cases rr
      cases rx
      have ec := hcv _ rt
      subst ec
      obtain ⟨⟨oe, vs, hget, hz, hv⟩, _, _⟩ := I.hok a _ ha
      have J : PySem.W.InstAt s.heap a oe D none := by
        obtain ⟨oc, od, oda, osl⟩ := oe
        obtain ⟨h1, h2⟩ := hz
        dsimp only at h1 h2 hv
        subst h1 h2 hv
        exact ⟨hget, rfl, rfl, trivial⟩
      exact PySem.W.kia_one (PySem.W.handS_kitx_exc C.hg C.hk C.hs C.hd C.ha C.hn C.ht C.hm) I.kIn J e (fun z => nomatch z) fun tk => ⟨.bl b, H, I.kept (t' := tk) fun _ _ z => z, rfl, q⟩
end PL

/-! PLcX: a list comprehension whose items may raise, in a def that lets the exception out. -/
namespace PL
open PySem PySem.Spec PyProof.Rows L2
section
variable {M : Model} {A : Around} {E : Value → Shared → Prop} {s : Shared} {env : Env}
/-- behind the block: the list is handed on, or the exception passed on -/
def compPostX (M : Model) (A : Around) (E : Value → Shared → Prop) (Q : Value → Shared → Prop) (acc : Value) (cenv : Env) (r : Result) (s' : Shared) : Prop :=
  match r with
  | .ok _ => ∃ m, s'.heap.Ns cenv.locals m ∧ ∀ h', Heap.SameBut cenv.locals s'.heap h' → Q acc { s' with heap := h' }
  | .error x => ∃ m, s'.heap.Ns cenv.locals m ∧ ∀ h', Heap.SameBut cenv.locals s'.heap h' → wpAny M A (PySem.passOn "comprehension.variables-let-go" x cenv : Sem Value) (fun _ _ => False) E { s' with heap := h' }
theorem comprehension_freeX {e : Expr} {scope : Scope} {pos : Pos} {newAcc first : Sem Value} {g : Comprehension} {gs : List Comprehension} {cl : List (Str × Addr)} {Q : Value → Shared → Prop}
    (hcl : clausesOf e = g :: gs) (hs : ∀ x, foldedSetIterable g.iter env x = pure x) (hclos : closureFor scope env = pure cl)
    (hkind : scope.kind = .function) (hnames : ∀ x ∈ scope.names, x.2 = .local → scope.names.lookup x.1 = some .local)
    (h : wpAny M A first (fun x s₁ => wpAny M A (pyIter x) (fun it s₂ => wpAny M A newAcc (fun acc s₃ =>
      wpAny M A (newFunctionEnv scope env.globals cl [] env.qual none .none (some env)) (fun cenv s₄ =>
        codeAny M A (.compStart e 0 it acc { cenv with scope := relabel scope env }) (compPostX M A E Q acc { cenv with scope := relabel scope env }) s₄) E s₃) E s₂) E s₁) E s) :
    wpAny M A (comprehension e scope env pos newAcc false first none) Q E s := by
  unfold comprehension
  rw [hclos, hcl]
  refine wpAny_bind (wpAny_mono h (fun x s₁ h₁ => wpAny_bind (wpAny_standAt (wpAny_bind (wpAny_of_eq (hs x) (wpAny_bind (wpAny_holding (wpAny_mono h₁ (fun it s₂ h₂ =>
    wpAny_standIf (wpAny_bind (wpAny_mono h₂ (fun acc s₃ h₃ => wpAny_bind (wpAny_pure (wpAny_bind (wpAny_mono h₃ (fun cenv s₄ h₄ => ?_) fun _ _ h' => h')))) fun _ _ h' => h')))
      fun _ _ h' => h'))))))) fun _ _ h' => h')
  dsimp only
  have hv : ∀ x ∈ (scope.names.filter fun x => (x.2 == .local || x.2 == .cell) && x.1 != (".0" : Str)).reverse, x.2 = .local →
      Env.kindOf { cenv with scope := relabel scope env } x.1 = some .local := fun x hx hl => lookup_relabel_local (hnames x (List.mem_filter.mp (List.mem_reverse.mp hx)).1 hl)
  refine wpAny_holding (wpAny_bind (wpAny_attempt (wpAny_holding (wpAny_run (codeAny_mono h₄ fun r s' hr => ?_)))))
  cases r with
  | ok f =>
    obtain ⟨m, hn, hr⟩ := hr
    exact wpAny_bind (wpAny_holding (wpAny_comp_letGo (cenv := { cenv with scope := relabel scope env }) hkind _ s' m hv hn fun h' m' _ hs' => wpAny_pure (hr h' hs')))
  | error x =>
    obtain ⟨m, hn, hr⟩ := hr
    exact wpAny_bind (wpAny_holding (wpAny_comp_letGo (cenv := { cenv with scope := relabel scope env }) hkind _ s' m hv hn fun h' m' _ hs' => wpAny_mono (hr h' hs') (fun _ _ f => f.elim) fun _ _ y => y))
theorem note_frame {u : Value} {e e' : Env} (h : e.frame = e'.frame) : noteFrame u e = noteFrame u e' := by
  unfold noteFrame PySem.frameOf
  rw [h]
end

section
variable {X : Cx} {pins : List (Addr × Obj)} {σ : L2.St} {H : Hp} {sI s s' : Shared} {E : XK}
/-- an exception that comes of a call, in the air of X -/
def XF (X : Cx) (E : XK) (u : Value) (s' : Shared) : Prop :=
  ∃ (a : Addr) (B : Heap) (sI : Shared) (pins : List (Addr × Obj)) (σ : L2.St) (H : Hp) (cls : Value) (d : Option Addr),
    u = .ref a ∧ Inv X pins σ H sI ∧ (∀ b o, sI.heap.get? b = some o → b ∉ frs X.stack → B.get? b = some o) ∧ sI.heap.UpToSlots s'.heap ∧
      HandSPX.FlyingZ B X.stack a (Zc cls d) s'.heap ∧ H a = none ∧ s'.os = sI.os ∧ AllBare s'.gens ∧ E cls d H
theorem XF.of_call (I : Inv X pins σ H s) {u : Value} (c : L2.CX X.prog X.w X.stack H s E u s') : XF X E u s' := by
  obtain ⟨a, B, H', cls, d, rfl, fl, hok, ub, na, os, ag, hE⟩ := c
  obtain ⟨G, g1, g2⟩ := restrict s'.heap fun b => (B.get? b).isSome || decide (b ∈ frs X.stack)
  have st : B.StaysIn s'.heap := fl.1
  have gB : ∀ b o, B.get? b = some o → G.get? b = some o := fun b o e => by
    rw [g1 b (by simp [e])]
    exact st b o e
  have gF : ∀ b, b ∈ frs X.stack → G.get? b = s'.heap.get? b := fun b hb => g1 b (by simp [hb])
  have og : ∀ b o, G.get? b = some o → s'.heap.get? b = some o ∧ ((B.get? b).isSome = true ∨ b ∈ frs X.stack) := fun b o e => by
    cases q : ((B.get? b).isSome || decide (b ∈ frs X.stack)) with
    | false => rw [g2 b q] at e; cases e
    | true =>
      rw [g1 b q] at e
      exact ⟨e, by simpa [Bool.or_eq_true] using q⟩
  refine ⟨a, B, { s with heap := G, gens := s'.gens, drawn := s'.drawn, toks := s'.toks }, pins, σ, H', cls, d, rfl, ?_, fun b o e hb => ?_, Heap.UpToSlots.of_keeps fun b o e => (og b o e).1, fl, na, os, ag, hE⟩
  · refine I.call (ch := []) ⟨fun b o e n hb _ => gB b o (ub.keep b o e n hb), fun b o e n hb _ => ?_, fun b o e n _ => ub.free b o e n, fun b o e _ => ?_, ub.tups, ub.frzs, ub.tbls⟩ (hok.kept gB) ag (fun _ z => nomatch z)
    · obtain ⟨sl, q⟩ := ub.slot b o e hb
      exact ⟨sl, by rw [gF b hb]; exact q⟩
    · by_cases hb : b ∈ frs X.stack
      · obtain ⟨sl, q⟩ := ub.slot b o e hb
        exact ⟨_, by rw [gF b hb]; exact q⟩
      · obtain ⟨o', q⟩ := ub.there b o e hb
        exact ⟨o', gB b o' q⟩
  · obtain ⟨e', h⟩ := og b o e
    rcases h with h | h
    · obtain ⟨o', q⟩ := Option.isSome_iff_exists.mp h
      have z := st b o' q
      rw [e'] at z; cases z
      exact q
    · exact absurd h hb
/-- the block's exception is the def's -/
theorem blk_raise {scope : Scope} {ce : Env} {fp : List Addr} {H3 : Hp} {s3 : Shared} {W : WX} {Er : Value → Shared → Prop} (I3 : Inv X pins σ H3 s3) (hch : ∀ b ∈ fp, (b ∈ X.ex ∨ X.s_0.heap.objs.size ≤ b) ∧ b ≠ X.env.locals ∧ (∀ x c, X.env.cells.lookup x = some c → c ≠ b) ∧ ∀ p ∈ X.pn ++ pins, p.1 ≠ b)
    (hs : X.stack = X.env :: X.outer) (hf : X.env.frame = some X.env.locals) (cf : ce.frame = X.env.frame) (cL : ce.locals = s3.heap.objs.size) (tk : Takes X W) (hW : ∀ cls d σ H, E cls d H → W cls d σ H) {u : Value} (x : XF (X.blk s3 H3 scope ce fp) E u s') :
    wpAny (model X.prog X.w) X.A (noteFrame u ce) (fun _ s'' => ∃ m, s''.heap.Ns ce.locals m ∧ ∀ h', Heap.SameBut ce.locals s''.heap h' → wpAny (model X.prog X.w) X.A (PySem.passOn "comprehension.variables-let-go" u ce : Sem Value) (fun _ _ => False) X.xe { s'' with heap := h' }) Er s' := by
  obtain ⟨a, B, sI, pb, σb, H', cls, d, rfl, I, nb, up, fl, na, os, ag, hE⟩ := x
  have nb : ∀ b o, sI.heap.get? b = some o → b ∉ frs X.stack → B.get? b = some o := nb
  have fl : HandSPX.FlyingZ B X.stack a (Zc cls d) s'.heap := fl
  have hfr : X.A.frames = some (X.env :: X.outer) := by rw [I3.ok.frames, hs]
  rw [note_frame cf]
  rw [hs] at fl
  have nC : H' ce.locals = none := I.free
  have Cfr : ce.locals ∉ frs X.stack := fun hm => by
    have := I3.stack.mem hm
    obtain ⟨_, o, ho, _⟩ := this
    have := Heap.lt_size ho
    rw [cL] at this
    exact Nat.lt_irrefl _ this
  have aC : a ≠ ce.locals := fun z => by
    obtain ⟨m, ⟨o, es, ep, ho, _⟩, _⟩ := I.loc
    have ho : sI.heap.get? ce.locals = some o := ho
    have q := nb _ _ ho Cfr
    rw [← z, fl.2.1] at q
    cases q
  refine HandSPX.looks_onZ Zc.steady hfr hf fl fun h2 held up2 => ?_
  obtain ⟨m, hn, _⟩ := I.loc
  have hn : sI.heap.Ns ce.locals m := hn
  have stB : ∀ b o, sI.heap.get? b = some o → b ∉ frs X.stack → h2.get? b = some o := fun b o e hb => held.1 b o (nb b o e hb)
  have hn2 : h2.Ns ce.locals m := by
    obtain ⟨o, es, ep, ho, r⟩ := hn
    exact ⟨o, es, ep, stB _ _ ho Cfr, r⟩
  refine ⟨m, hn2, fun h3 sb => ?_⟩
  -- the block's dict is let go
  have hC : ∀ b, b ≠ ce.locals → h3.get? b = h2.get? b := fun b hb => sb.2 b hb
  have base3 : (PySem.W.hideAll B [ce.locals]).StaysIn h3 := fun b o e => by
    have ne : b ≠ ce.locals := fun z => by rw [z, PySem.W.hideAll_none _ (by simp)] at e; cases e
    rw [hC b ne]
    exact held.1 b o (PySem.W.of_hideAll _ e)
  have hid : ∀ b, B.get? b = none → (PySem.W.hideAll B [ce.locals]).get? b = none := fun b e => by
    cases q : (PySem.W.hideAll B [ce.locals]).get? b with
    | none => rfl
    | some o => rw [PySem.W.of_hideAll _ q] at e; cases e
  have frC : ∀ b o, b ∈ frs X.stack → h2.get? b = some o → h3.get? b = some o := fun b o hb e => by
    rw [hC b fun z => Cfr (by rw [← z]; exact hb)]; exact e
  have ff : h2.FunFrames B (X.env :: X.outer) := held.2.2.1
  have ff3 : h3.FunFrames (PySem.W.hideAll B [ce.locals]) (X.env :: X.outer) := by
    have key : ∀ l : List Env, (∀ b ∈ frs l, b ∈ frs X.stack) → h2.FunFrames B l → h3.FunFrames (PySem.W.hideAll B [ce.locals]) l := by
      intro l
      induction l with
      | nil => intro _ _; trivial
      | cons e l ih =>
        intro hl hff
        obtain ⟨k1, ⟨L, o, k2, k3, k4, k5⟩, k6⟩ := hff
        exact ⟨k1, ⟨L, o, k2, hid _ k3, frC L o (hl L (List.mem_filterMap.mpr ⟨e, List.mem_cons_self, k2⟩)) k4, k5⟩, ih (fun b hb => hl b (by
          obtain ⟨e', he, q⟩ := List.mem_filterMap.mp hb
          exact List.mem_filterMap.mpr ⟨e', List.mem_cons_of_mem _ he, q⟩)) k6⟩
    exact key _ (fun b hb => by rw [hs]; exact hb) ff
  obtain ⟨oe, vs, T, oT, ts, t1, t2, t3, t4, t5, t6, t7, t8, t9⟩ := held.2.2.2
  have TC : T ≠ ce.locals := fun z => by
    obtain ⟨o, es, ep, ho, _⟩ := hn
    have q := nb _ _ ho Cfr
    rw [← z, t5] at q
    cases q
  have tr3 : HandSPX.TracedZ h3 (PySem.W.hideAll B [ce.locals]) a (Zc cls d) (rawInt X.env.locals) := ⟨oe, vs, T, oT, ts, by rw [hC a aC]; exact t1, t2, t3, t4, hid _ t5, t6, by rw [hC T TC]; exact t7, t8, t9⟩
  have held3 : HandSPX.HeldZ (PySem.W.hideAll B [ce.locals]) (X.env :: X.outer) a (Zc cls d) X.env.locals h3 := ⟨base3, hid _ held.2.1, ff3, tr3⟩
  unfold PySem.passOn
  obtain ⟨oe3, vs3, T3, _, _, u1, _, u3, u4, _⟩ := tr3
  refine wpAny_bind (wpAny_field u1 u3 u4 ?_)
  rw [if_neg (by simp)]
  rw [cf, hf]
  refine wpAny_bind (HandSPX.setFlight_onZ held3 fun h4 held4 up4 => ?_)
  refine wpAny_throw (tk _ _ ?_)
  have nbH : ∀ b o, (PySem.W.hideAll sI.heap [ce.locals]).get? b = some o → sI.heap.get? b = some o ∧ b ≠ ce.locals := fun b o e =>
    ⟨PySem.W.of_hideAll _ e, fun z => by rw [z, PySem.W.hideAll_none _ (by simp)] at e; cases e⟩
  have s3C : ∀ b o, s3.heap.get? b = some o → b ≠ ce.locals := fun b o e z => by
    have := Heap.lt_size e
    rw [z, cL] at this
    exact Nat.lt_irrefl _ this
  have hg : ∀ b o, sI.heap.get? b = some o → b ≠ ce.locals → (PySem.W.hideAll sI.heap [ce.locals]).get? b = some o := fun b o e ne => PySem.W.hideAll_get _ e (by simpa using ne)
  have Ib := I.base
  have I' : Inv X pins σ H' { sI with heap := PySem.W.hideAll sI.heap [ce.locals] } := by
    refine I3.call' (ch := fp) I.os ⟨fun b o e n hb hx => hg b o (Ib.keep b o e n hb hx) (s3C b o e), fun b o e n hb hx => ?_, fun b o e n hx => Ib.free b o e n hx, fun b o e hx => ?_, Ib.tups, Ib.frzs, Ib.tbls⟩ (fun b v e => ?_) I.bare hch
    · obtain ⟨sl, q⟩ := Ib.slot b o e n hb hx
      exact ⟨sl, hg b _ q (s3C b o e)⟩
    · obtain ⟨o', q⟩ := Ib.there b o e hx
      exact ⟨o', hg b _ q (s3C b o e)⟩
    · refine (I.hok b v e).stay (fun c w hc q => hg c w q fun z => ?_) (fun _ q => q) fun _ _ q => q
      rcases hc with y | y
      · rw [← y, z, nC] at e; cases e
      · rw [z, nC] at y; cases y
  refine ⟨a, PySem.W.hideAll B [ce.locals], _, pins, σ, H', cls, d, rfl, I', fun b o e hb => ?_, fun b o e hd => ?_, .inr (.inr (by rw [hs]; exact held4)), na, os, ag, hW _ _ _ _ hE⟩
  · obtain ⟨e1, e2⟩ := nbH b o e
    exact PySem.W.hideAll_get _ (nb b o e1 hb) (by simpa using e2)
  · obtain ⟨e1, e2⟩ := nbH b o e
    obtain ⟨sl, e3⟩ := up b o e1 hd
    obtain ⟨sl2, e4⟩ := up2 b _ e3 hd
    obtain ⟨sl3, e5⟩ := up4 b _ ((hC b e2).trans e4) hd
    exact ⟨sl3, e5⟩
theorem lcX_core {pins : List (Addr × Obj)} {s : Shared} {σ : L2.St} {H : Hp} {Q : VK} {W : WX} {elt tg iter : Expr} {ifs : List Expr} {scope : Scope} {own : List (Str × Nat)} {pos pos' : Pos} {wi : TI} {g : TG} {tt : TT} {te : TE} {Qf : Value → Shared → Prop}
    (hst : X.stack = X.env :: X.outer) (hfe : X.env.frame = some X.env.locals) (tk : Takes X W) (hW : ∀ cls d σ H, E cls d H → W cls d σ H)
    (hc : X.calm = true) (hN : X.N.Nodup) (I : Inv X pins σ H s) (hi : PI X tg iter wi) (ok : BlkOk X.N X.env.scope scope own)
    (hg : ∀ (s : Shared) (H : Hp) (C : Addr) (cl : List (Str × Addr)) (fp : List Addr), PG (X.blk s H scope (compEnvC scope cl C X.env) fp) tg g) (ht : ∀ (s : Shared) (H : Hp) (C : Addr) (cl : List (Str × Addr)) (fp : List Addr), PTs (X.blk s H scope (compEnvC scope cl C X.env) fp) ifs tt)
    (he : ∀ (s : Shared) (H : Hp) (C : Addr) (cl : List (Str × Addr)) (fp : List Addr), PE ((X.blk s H scope (compEnvC scope cl C X.env) fp).wish (XF (X.blk s H scope (compEnvC scope cl C X.env) fp) E)) elt te) (hs : ∀ x, foldedSetIterable iter X.env x = pure x)
    (h : tLc wi g tt te (own.map (·.2)) σ H Q)
    (hRR : ∀ D C s' m H', Inv X pins σ H' s' → Q (.ref D) H' → s'.heap.Ns C m → FpOk X pins H' C → ∀ h'', Heap.SameBut C s'.heap h'' → Qf (.ref D) { s' with heap := h'' }) :
    wpAny (model X.prog X.w) X.A (comprehension (.ListComp elt [⟨tg, iter, ifs, 0⟩] scope pos) scope X.env pos' (newList []) false (eval iter X.env) none) Qf X.xe s := by
  have hfree : ∀ y ∈ scope.names, y.2 = .free → ∃ c, X.env.cells.lookup y.1 = some c := fun y hy e => by
    rcases ok.free y hy e with k | k
    · exact I.ok.has _ (.inl k)
    · exact I.ok.has _ (.inr k)
  refine comprehension_freeX rfl hs (closure_ok hfree) ok.kind (fun y hy e => by rw [ok.uniq y hy, e])
    (thn (hi.run pins s σ H _ I h) fun xv s1 hx => thn hx fun itv s2 h2 => ?_)
  obtain ⟨it, fp, tn, J, H2, e, I2, T, st2, f2, q⟩ := h2
  subst e
  refine wpAny_newObj_type (newEnv_comp ?_) (by show 0 ≤ sizeLine; decide)
  generalize hD : s2.heap.objs.size = D
  have hDn : H2 D = none := I2.hok.fresh (Nat.le_of_eq hD)
  obtain ⟨W', ⟨m0, w0⟩, turn⟩ := q D hDn
  -- the new list
  generalize hs3 : ({ s2 with heap := s2.heap.push { cls := .type "list", data := .seq ([] : List Value).toArray } } : Shared) = s3
  have I3 : Inv X pins σ (upd H2 D (.lst [])) s3 := by
    rw [← hs3]
    refine I2.laid (t' := s2.toks) (fun b o e => Heap.get?_push_of_some _ e) (Nat.le_of_eq hD) ⟨Nat.zero_le _, [], 0, .nil, ?_⟩
    rw [← hD]
    exact Heap.get?_push_size _ rfl
  have h3 : s3.heap = s2.heap.push { cls := .type "list", data := .seq ([] : List Value).toArray } := by rw [← hs3]
  have sz : ∀ b ∈ fp, b < s2.heap.objs.size := fun b hb => by
    obtain ⟨o, e, _⟩ := T.obj _ _ st2 b hb
    exact Heap.lt_size e
  have f3 : ∀ b ∈ fp, FpOk X pins (upd H2 D (.lst [])) b ∧ b < s3.heap.objs.size := fun b hb => by
    have hlt := sz b hb
    refine ⟨⟨?_, (f2 b hb).2⟩, by rw [h3, Heap.size_push]; exact Nat.lt_succ_of_lt hlt⟩
    rw [upd_ne (by rw [← hD]; exact Nat.ne_of_lt hlt)]
    exact (f2 b hb).1
  have st3 : tn 0 s3.heap := T.keep _ _ _ st2 fun b _ o e => by rw [h3]; exact Heap.get?_push_of_some _ e
  have I4 := block_start I3 ok hN f3
  have pg := hg s3 (upd H2 D (.lst [])) s3.heap.objs.size (cellsFrom (s3.heap.objs.size + 1) scope.names (cloFrom X.env.cells scope.names [])) fp
  have pt := ht s3 (upd H2 D (.lst [])) s3.heap.objs.size (cellsFrom (s3.heap.objs.size + 1) scope.names (cloFrom X.env.cells scope.names [])) fp
  have pe := he s3 (upd H2 D (.lst [])) s3.heap.objs.size (cellsFrom (s3.heap.objs.size + 1) scope.names (cloFrom X.env.cells scope.names [])) fp
  show codeAny _ _ (.compStart (.ListComp elt [⟨tg, iter, ifs, 0⟩] scope pos) 0 (.ref it) (.ref D) (compEnvC scope (cellsFrom (s3.heap.objs.size + 1) scope.names (cloFrom X.env.cells scope.names [])) s3.heap.objs.size X.env)) (compPostX (model X.prog X.w) X.A X.xe Qf (.ref D) (compEnvC scope (cellsFrom (s3.heap.objs.size + 1) scope.names (cloFrom X.env.cells scope.names [])) s3.heap.objs.size X.env)) { s3 with heap := pushCells (s3.heap.push { cls := .type "dict", data := .dict #[] }) scope.names }
  have nfp : ∀ b ∈ fp, (upd H2 D (.lst [])) b = none := fun b hb => (f3 b hb).1.1
  generalize hce : compEnvC scope (cellsFrom (s3.heap.objs.size + 1) scope.names (cloFrom X.env.cells scope.names [])) s3.heap.objs.size X.env = ce at I4 pg pt pe ⊢
  have cL : ce.locals = s3.heap.objs.size := by subst hce; rfl
  have cf : ce.frame = X.env.frame := by subst hce; rfl
  generalize hH3 : upd H2 D (.lst []) = H3 at I3 I4 pg pt pe w0 nfp f3
  generalize hs4 : ({ s3 with heap := pushCells (s3.heap.push { cls := .type "dict", data := .dict #[] }) scope.names } : Shared) = s4 at I4 ⊢
  have st4 : tn 0 s4.heap := T.keep _ _ _ st3 fun b _ o e => by rw [← hs4]; exact pushCells_keeps _ _ _ _ (Heap.get?_push_of_some _ e)
  have hch : ∀ b ∈ fp, (b ∈ X.ex ∨ X.s_0.heap.objs.size ≤ b) ∧ b ≠ X.env.locals ∧ (∀ x c, X.env.cells.lookup x = some c → c ≠ b) ∧ ∀ p ∈ X.pn ++ pins, p.1 ≠ b := fun b hb => ⟨(f3 b hb).1.2.2.2.1, (f3 b hb).1.2.1, (f3 b hb).1.2.2.2.2.1, (f3 b hb).1.2.2.2.2.2⟩
  have stat : ∀ {σ' : L2.St} {H' : Hp} {s' : Shared}, Inv (X.blk s3 H3 scope ce fp) [] σ' H' s' → (∀ b ∈ fp, H' b = none) → ∀ b ∈ fp, FpOk (X.blk s3 H3 scope ce fp) [] H' b := fun {σ' H' s'} I' hn b hb =>
    ⟨hn b hb, (I'.ok.exf b hb).1, I'.ok.exfs b hb, .inl hb, fun x c e => (I'.ok.exf b hb).2 x c e, fun p hp => absurd (show p ∈ ([] : List (Addr × Obj)) ++ [] from hp) (by simp)⟩
  have loop : codeAny (model X.prog X.w) X.A (.compLoop (.ListComp elt [⟨tg, iter, ifs, 0⟩] scope pos) 0 (.ref it) (.ref D) ce) (compPostX (model X.prog X.w) X.A X.xe Qf (.ref D) ce) s4 := by
    refine compLoop_any (fun n s' => ∃ i H', Inv (X.blk s3 H3 scope ce fp) [] (wipe σ (own.map (·.2))) H' s' ∧ tn i s'.heap ∧ (∀ b ∈ fp, H' b = none) ∧ W' i n H') ?_ m0 ⟨0, H3, I4, st4, nfp, w0⟩
    rintro n s5 ⟨i, H5, I5, st5, n5, w5⟩
    rcases turn i n H5 w5 with ⟨stop, qq⟩ | ⟨go, Nx, hNx, step⟩
    · have td := T.done (X.blk s3 H3 scope ce fp) rfl rfl rfl hc i [] s5 _ H5 (fun _ _ => False) I5 (stat I5 n5) st5 stop
      refine thnF td fun r s6 ⟨hr, I6⟩ => ?_
      subst hr
      -- back in the def's context
      have I7 : Inv X pins σ H5 s6 := I3.call' (ch := fp) I6.os I6.base I6.hok I6.bare hch
      have nC : H5 s3.heap.objs.size = none := by
        have z : H5 ce.locals = none := I6.free
        rw [cL] at z
        exact z
      obtain ⟨m, hn, _⟩ := I6.loc
      have hn : s6.heap.Ns ce.locals m := hn
      refine ⟨m, hn, fun h'' sb => ?_⟩
      rw [cL] at hn sb
      exact hRR D s3.heap.objs.size s6 m H5 I7 qq hn (I3.fpOk (Nat.le_refl _) nC) h'' sb
    · have ti := T.item (X.blk s3 H3 scope ce fp) rfl rfl rfl hc i [] s5 _ H5 (fun _ _ => False) I5 (stat I5 n5) st5 go
      refine thnF ti fun r s6 ⟨u, hr, h6⟩ => ?_
      subst hr
      refine thnF h6 fun _ s7 ⟨x, H7, I7, r7, y7, st7, n7⟩ => ?_
      have I7' := I7.pinned (stat I7 n7) (T.obj _ _ st7)
      refine thnF (pg.run _ s7 _ H7 x u _ I7' r7 (step x H7 y7)) fun _ s8 ⟨σ8, H8, I8, hw8, q8⟩ => ?_
      refine thnF (pt.run _ s8 σ8 H8 _ I8 q8) fun b s9 ⟨H9, I9, q9⟩ => ?_
      -- the turn's end
      have fin : ∀ {s' : Shared} {H' : Hp}, Inv (X.blk s3 H3 scope ce fp) ([] ++ pinsAt fp s7.heap) σ8 H' s' → Nx H' → ∃ m, m < n ∧ ∃ i H', Inv (X.blk s3 H3 scope ce fp) [] (wipe σ (own.map (·.2))) H' s' ∧ tn i s'.heap ∧ (∀ b ∈ fp, H' b = none) ∧ W' i m H' := fun {s' H'} I' nx => by
        obtain ⟨m', hm, w'⟩ := hNx H' nx
        have pin' : ∀ b ∈ fp, ∀ o, s7.heap.get? b = some o → s'.heap.get? b = some o ∧ H' b = none := fun b hb o e =>
          let z := I'.pin (b, o) (List.mem_append_right _ (List.mem_append_right _ (mem_pinsAt hb e)))
          ⟨z.1, z.2.1⟩
        have hl : (wipe σ (own.map (·.2))).length = σ8.length := by rw [← hw8, wipe_length]
        refine ⟨m', hm, i + 1, H', (I'.unpinned (pins := [])).weak hl (fun j v e => ?_), T.keep _ _ _ st7 fun b hb o e => (pin' b hb o e).1, fun b hb => ?_, w'⟩
        · rw [← hw8] at e
          exact (wipe_some e).1
        · obtain ⟨o, e, _⟩ := T.obj _ _ st7 b hb
          exact (pin' b hb o e).2
      cases b with
      | false =>
        simp only [Bool.false_eq_true, if_false] at q9 ⊢
        exact fin I9 q9
      | true =>
        simp only [if_true] at q9 ⊢
        refine wpAny_mono (pe.run _ s9 σ8 H9 _ (I9.wish _) q9) (fun z s10 ⟨yv, H10, I10, r10, acc, hD10, hz10, nx⟩ => ?_) fun u s' xf => ?_
        · exact app_ok (X := X.blk s3 H3 scope ce fp) I10.unwish hD10 hz10 r10 fun s11 I11 => fin I11 nx
        · show wpAny _ _ (noteFrame u ce) _ _ s'
          exact blk_raise I3 hch hst hfe cf cL tk hW xf
  exact codeAny_compStart_list loop (T.self X.A 0 _ _ _ st4 loop)
theorem pe_lcX {W : WX} {elt tg iter : Expr} {ifs : List Expr} {scope : Scope} {own : List (Str × Nat)} {pos : Pos} {wi : TI} {g : TG} {tt : TT} {te : TE} (hst : X.stack = X.env :: X.outer) (hfe : X.env.frame = some X.env.locals) (tk : Takes X W) (hW : ∀ cls d σ H, E cls d H → W cls d σ H) (hc : X.calm = true) (hN : X.N.Nodup) (hi : PI X tg iter wi) (ok : BlkOk X.N X.env.scope scope own)
    (hg : ∀ (s : Shared) (H : Hp) (C : Addr) (cl : List (Str × Addr)) (fp : List Addr), PG (X.blk s H scope (compEnvC scope cl C X.env) fp) tg g) (ht : ∀ (s : Shared) (H : Hp) (C : Addr) (cl : List (Str × Addr)) (fp : List Addr), PTs (X.blk s H scope (compEnvC scope cl C X.env) fp) ifs tt)
    (he : ∀ (s : Shared) (H : Hp) (C : Addr) (cl : List (Str × Addr)) (fp : List Addr), PE ((X.blk s H scope (compEnvC scope cl C X.env) fp).wish (XF (X.blk s H scope (compEnvC scope cl C X.env) fp) E)) elt te) (hs : ∀ x, foldedSetIterable iter X.env x = pure x := by intro _; rfl) :
    PE X (.ListComp elt [⟨tg, iter, ifs, 0⟩] scope pos) (tLc wi g tt te (own.map (·.2))) := by
  refine ⟨fun pins s σ H Q I h => ?_⟩
  rw [eval_ListComp]
  refine lcX_core hst hfe tk hW hc hN I hi ok hg ht he hs h fun D C s' m H' I' q hn f h'' sb => ?_
  obtain ⟨f0, f1, f2, f3, f4, f5⟩ := f
  exact ⟨.ref D, H', I'.turned (t' := s'.toks) (fun b o hb e => (sb.2 b hb).trans e) f0 f1 f3 f4 f5, rfl, q⟩
/-- a call in such a block -/
theorem pe_clB {Y : Cx} {k j : Nat} {sp : Sp} {x : Str} {p pos : Pos} {e : Expr} {es : List Expr} {t : TA} (c : ClX Y.prog Y.w Y.K Y.mg Y.base k x sp) (hr : Room j Y.A) (hk : k ≤ j) (hg : Gl Y x) (ha : PA (Y.wish (XF Y E)) (e :: es) t)
    (hdb : (x == ("__debug__" : Str)) = false := by decide) (he : starEach (e :: es) Y.env = (false, eval e Y.env) :: starEach es Y.env := by rfl) (hpl : (backTo pos (starEach es Y.env)).any (·.1) = false := by rfl) :
    PE (Y.wish (XF Y E)) (.Call (.Name x p) (e :: es) [] pos) (tCall sp [] E t) := by
  obtain ⟨f, fd, ps, F, hm, kp, b⟩ := c.ex
  exact pe_call (X := Y.wish (XF Y E)) (CX := L2.CX Y.prog Y.w) F (hr.mono hk) hg hm kp b .nil (fun _ _ _ _ _ _ I c => XF.of_call I.unwish c) ha hdb he hpl
end
end PL

/-! PHold: kept exceptions as slots: try on data, isinstance; exceptions made as values; two readings of one operator. -/
namespace PL
open PySem PySem.Spec PyProof.Rows L2
/-- at a: an exception object of the class cls -/
def IsX (cls : Value) (a : Addr) (o : HO) : Prop := ∃ φ : Heap → Prop, o = .ext φ ∧ ∀ h, φ h → ∃ (oe : Obj) (vs : Array Value), h.get? a = some oe ∧ Zc cls none oe ∧ oe.data = .fields vs
theorem isX_C {cls : Value} {a : Addr} : IsX cls a (ExC cls none a) := ⟨_, rfl, fun _ h => h⟩
theorem isX_O {cls : Value} {a : Addr} : IsX cls a (ExO cls a) := ⟨_, rfl, fun _ ⟨oe, vs, h1, h2, h3, _⟩ => ⟨oe, vs, h1, h2, h3⟩⟩
theorem kit_x {X : Cx} {pins : List (Addr × Obj)} {σ : L2.St} {H : Hp} {s : Shared} {D a : Addr} {o : HO} (C : ExcC X.K D) (I : Inv X pins σ H s) (ha : H a = some o) (hx : IsX (.ref D) a o) :
    ∃ P : Heap → Prop, PySem.W.KitX X.K (.ref a) (.ref D) P ∧ P s.heap := by
  obtain ⟨φ, rfl, hφ⟩ := hx
  obtain ⟨p, _, _⟩ := I.hok a _ ha
  obtain ⟨oe, vs, hget, hz, hv⟩ := hφ _ p
  have J : PySem.W.InstAt s.heap a oe D none := by
    obtain ⟨oc, od, oda, osl⟩ := oe
    obtain ⟨h1, h2⟩ := hz
    dsimp only at h1 h2 hv
    subst h1 h2 hv
    exact ⟨hget, rfl, rfl, trivial⟩
  exact ⟨_, PySem.W.handS_kitx_exc C.hg C.hk C.hs C.hd C.ha C.hn C.ht C.hm, J⟩
/-- isinstance(e, C): e a kept exception, or any value of a known type -/
def rIsAny (K : PySem.W.Frag) : List V → Hp → VK → Prop := fun xs H Q => rIsi K xs H Q ∨ ∃ (a D : Addr) (o : HO) (c : V) (u : Value) (b : Bool), xs = [.ref a, c] ∧ ExcC K D ∧ H a = some o ∧ IsX (.ref D) a o ∧ ClsV c u ∧ PySem.W.kitOne K (.ref D) u = some b ∧ Q (.bl b) H
def rIsAnyT (K : PySem.W.Frag) : List V → Hp → VK → Prop := fun xs H Q => rIsiT K xs H Q ∨ ∃ (a D tp : Addr) (o : HO) (cs : List V) (us : List Value) (b : Bool), xs = [.ref a, .ref tp] ∧ ExcC K D ∧ H a = some o ∧ IsX (.ref D) a o ∧ H tp = some (.tup cs) ∧ Paired ClsV cs us ∧ PySem.W.kitAny K (.ref D) us = some b ∧ Q (.bl b) H
section
variable {X : Cx}
theorem call_isAny : CallR X (.builtin "isinstance") (rIsAny X.K) := by
  intro pins s σ H xs us Q I r h
  rcases h with h | ⟨a, D, o, c, u, b, rfl, C, ha, hx, k, e, q⟩
  · exact call_isi pins s σ H xs us Q I r h
  · obtain ⟨u1, u2, rfl, r1, r2⟩ := vals2 r
    have e2 := k.eq r2
    subst e2
    cases (show u1 = Value.ref a from r1)
    obtain ⟨P, Z, p⟩ := kit_x C I ha hx
    exact PySem.W.kia_one Z I.kIn p e (fun z => nomatch z) fun tk => ⟨.bl b, H, I.tok tk, rfl, q⟩
theorem call_isAnyT : CallR X (.builtin "isinstance") (rIsAnyT X.K) := by
  intro pins s σ H xs us Q I r h
  rcases h with h | ⟨a, D, tp, o, cs, ws, b, rfl, C, ha, hx, hT, k, e, q⟩
  · exact call_isiT pins s σ H xs us Q I r h
  · obtain ⟨u1, u2, rfl, r1, r2⟩ := vals2 r
    cases (show u1 = Value.ref a from r1)
    cases (show u2 = Value.ref tp from r2)
    obtain ⟨P, Z, p⟩ := kit_x C I ha hx
    obtain ⟨_, its, rv, o2, h1, h2, n, h3⟩ := (show ObjOk X.prog X.w H s.heap tp (.tup cs) from I.hok tp _ hT)
    have e3 := ClsV.all k rv
    subst e3
    obtain ⟨oc, od, dt, sl⟩ := o2
    simp only at h2 h3
    subst h2 h3
    exact PySem.W.kia_tup Z I.kIn p h1 e (fun z => nomatch z) fun tk => ⟨.bl b, H, I.tok tk, rfl, q⟩
/-- two readings of one operator -/
def rOr (r r' : R2) : R2 := fun x y H Q => r x y H Q ∨ r' x y H Q
theorem op_or2 {f : Value → Value → Sem Value} {r r' : R2} (h : OpR X f r) (h' : OpR X f r') : OpR X f (rOr r r') := by
  intro pins s σ H x y v u Q I rx ry z
  rcases z with z | z
  · exact h pins s σ H x y v u Q I rx ry z
  · exact h' pins s σ H x y v u Q I rx ry z
end
/-! ### on data -/
/-- a slot that holds an exception of the class cls -/
def exS (cls : Value) : Sl := .ob fun _ F v => ∃ (a : Addr) (o : HO), v = .ref a ∧ F a = some o ∧ IsX cls a o
/-- try: tb except c as (slot i): ts -/
def tTryK (K : PySem.W.Frag) (c : Value) (i : Nat) (tb : WX → TS) (ts : Addr → Value → Option Addr → TS) : TS := fun D σ H => tb (wKeep K c i ts D) D σ H
section
variable {E : Ent} {δ δ' : List Sl} {te ta tb tc : TE} {d : D} {Φ : Out → Prop} {t : TA} {as : List Sl} {R : List Sl → D → Prop} {C : List Sl → Value → Prop} {c cls : Value} {u : TS} {i n : Nat}
theorem ev_isX {D : Addr} {cv : V} {w : Value} {b : Bool} (h0 : δ[n]? = some (exS (.ref D))) (X : ExcC E.K D) (hc : ClsV cv w) (hk : PySem.W.kitOne E.K (.ref D) w = some b) : Ev E (tCB (rIsAny E.K) (tCons (tVar n) (tCons (tC cv) tNil))) δ (.bool b) := fun σ G H Q s k => by
  obtain ⟨o, ho⟩ := s.here h0
  obtain ⟨F, q⟩ := s.rg
  obtain ⟨v, e, hs⟩ := q.sl n _ o h0 ho
  subst e
  obtain ⟨a, oo, e, h1, h2⟩ := hs G (Same.refl G)
  subst e
  exact ⟨.ref a, ho, .inr ⟨a, D, oo, cv, w, b, rfl, X, q.in_ n a _ h1, h2, hc, hk, k _ G H (Gr.refl s.i) rfl⟩⟩
theorem ev_isD {cv : V} {w : Value} {b : Bool} (ha : Ev E ta δ d) (hc : ClsV cv w) (hk : PySem.W.kitOne E.K (.type (tyD d)) w = some b) : Ev E (tCB (rIsAny E.K) (tCons ta (tCons (tC cv) tNil))) δ (.bool b) := fun σ G H Q s k => ha σ G H _ s fun v G2 H2 g r =>
  .inl ⟨v, cv, _, w, b, rfl, hc, tyX_of g.i r, hk, k _ G2 H2 g rfl⟩
/-- the classes of a tuple -/
theorem tup_cls {cs : List V} {σ : L2.St} {H : Hp} {Q : VK} (hl : cs.length ≤ 1000) (k : ∀ p, H p = none → Q (.ref p) (upd H p (.tup cs))) : ∀ {t : TA}, (∀ (R : List V → Hp → Prop), R cs H → t σ H R) → tTup t σ H Q := fun h => h _ ⟨Nat.le_trans hl (by decide), k⟩
def clsT : List V → TA
  | [] => tNil
  | c :: cs => tCons (tC c) (clsT cs)
theorem clsT_run {σ : L2.St} {H : Hp} : ∀ (cs : List V) (R : List V → Hp → Prop), R cs H → clsT cs σ H R
  | [], R, h => h
  | c :: cs, R, h => clsT_run cs (fun vs H1 => R (c :: vs) H1) h
theorem ev_isXT {D : Addr} {cs : List V} {us : List Value} {b : Bool} (h0 : δ[n]? = some (exS (.ref D))) (X : ExcC E.K D) (hl : cs.length ≤ 1000) (hc : Paired ClsV cs us) (hk : PySem.W.kitAny E.K (.ref D) us = some b) : Ev E (tCB (rIsAnyT E.K) (tCons (tVar n) (tCons (tTup (clsT cs)) tNil))) δ (.bool b) := fun σ G H Q s k => by
  obtain ⟨o, ho⟩ := s.here h0
  obtain ⟨F, q⟩ := s.rg
  obtain ⟨v, e, hs⟩ := q.sl n _ o h0 ho
  subst e
  obtain ⟨a, oo, e, h1, h2⟩ := hs G (Same.refl G)
  subst e
  have ha := q.in_ n a _ h1
  refine ⟨.ref a, ho, clsT_run cs _ ⟨Nat.le_trans hl (by decide), fun p hp => ?_⟩⟩
  have ne : a ≠ p := ne_of_none ha hp
  exact .inr ⟨a, D, p, oo, cs, us, b, rfl, X, by rw [upd_ne ne]; exact ha, h2, upd_same, hc, hk, k _ G _ (Gr.side s.i (same_new hp)) rfl⟩
theorem ev_isDT {cs : List V} {us : List Value} {b : Bool} (ha : Ev E ta δ d) (hl : cs.length ≤ 1000) (hc : Paired ClsV cs us) (hk : PySem.W.kitAny E.K (.type (tyD d)) us = some b) : Ev E (tCB (rIsAnyT E.K) (tCons ta (tCons (tTup (clsT cs)) tNil))) δ (.bool b) := fun σ G H Q s k => ha σ G H _ s fun v G2 H2 g r => by
  refine clsT_run cs _ ⟨Nat.le_trans hl (by decide), fun p hp => ?_⟩
  have gr : Gr G2 H2 G2 (upd H2 p (.tup cs)) := Gr.side g.i (same_new hp)
  exact .inl ⟨v, p, cs, _, us, b, rfl, upd_same, hc, tyX_of gr.i r, hk, k _ G2 _ (g.trans gr) rfl⟩
/-- behind the suite n = e, e the caught object -/
theorem keep_post {X : Ends} {σ : L2.St} {G G0 H : Hp} (s : St E δ σ G H) (hy : PySem.W.exmOne E.K cls c = some true) (e0 : Same G0 G) (hi : i < δ.length) (p : Post E G0 X (.nx (((δ.set i .no).set n (exS cls)).set i .no))) :
    wKeep E.K c i (fun _ _ _ => tAsg (tVar i) (gName n)) X cls none σ H := by
  refine ⟨hy, fun a ha => ?_⟩
  have s1 : St E (δ.set i .no) (σ.set i (some (.ref a))) G H := s.putB i .no _ trivial
  have hi : i < σ.length := by rw [s.len]; exact hi
  refine ⟨.ref a, by rw [List.getElem?_set]; simp [hi], fun _ => ?_⟩
  have gp : G a = none := s.i.free ha
  have g2 : Gr G H G (upd H a (ExC cls none a)) := Gr.side s.i (same_new ha)
  have s2 : St E ((δ.set i .no).set n (exS cls)) ((σ.set i (some (.ref a))).set n (some (.ref a))) G (upd H a (ExC cls none a)) :=
    s1.put g2 n (exS cls) (some (.ref a)) (sing a (ExC cls none a)) (sing_in upd_same) (fun b h => by rw [sing_ne h]; exact ⟨ha, gp⟩) ⟨_, rfl, fun _ _ => ⟨a, _, rfl, sing_self, isX_C⟩⟩
  exact p _ G _ e0 (s2.putB i .no none trivial)
/-- the call in a try: it answers, or it raises what the clause names -/
theorem trS_ret {W : WX} {σ : L2.St} {G H : Hp} {Q : VK} (s : St E δ σ G H) (h : Ea E t δ as) (hR : R as d) (k : ∀ v G2 H2, Gr G H G2 H2 → Rp G2 d v → Q v H2) : tCallS (spU E.K R C) (WE W) t σ H Q := h σ G H _ s fun us G1 H1 g1 r1 =>
  ⟨G1, as, g1.i, r1, .inl ⟨d, hR, fun v G2 H2 g2 r2 => k v G2 H2 (g1.trans g2) r2⟩⟩
theorem trS_exc {W : WX} {σ : L2.St} {G H : Hp} {Q : VK} (s : St E δ σ G H) (h : Ea E t δ as) (hC : C as cls) (k : ∀ G2 H2, Gr G H G2 H2 → W cls none σ H2) : tCallS (spU E.K R C) (WE W) t σ H Q := h σ G H _ s fun us G1 H1 g1 r1 =>
  ⟨G1, as, g1.i, r1, .inr ⟨cls, hC, fun G2 H2 g2 => k G2 H2 (g1.trans g2)⟩⟩
theorem xs_tryX {tb : WX → TS} (hb : ∀ W, tb W = tDrop (tCallS (spU E.K R C) (WE W) t) ∨ (∃ m, tb W = tAsg (tCallS (spU E.K R C) (WE W) t) (gName m)) ∨ tb W = tRet (tCallS (spU E.K R C) (WE W) t)) (h : Ea E t δ as) (hC : C as cls) (hy : PySem.W.exmOne E.K cls c = some true) (hi : i < δ.length)
    (k : Φ (.nx (((δ.set i .no).set n (exS cls)).set i .no))) : Xs E (tTryK E.K c i tb (fun _ _ _ => tAsg (tVar i) (gName n))) δ Φ := fun σ G H X s p => by
  have key : ∀ Q, tCallS (spU E.K R C) (WE (wKeep E.K c i (fun _ _ _ => tAsg (tVar i) (gName n)) X)) t σ H Q := fun Q => trS_exc s h hC fun G2 H2 g => keep_post (s.grow g) hy g.g hi (p _ k)
  show tb (wKeep E.K c i (fun _ _ _ => tAsg (tVar i) (gName n)) X) X σ H
  rcases hb (wKeep E.K c i (fun _ _ _ => tAsg (tVar i) (gName n)) X) with e | ⟨m, e⟩ | e
  · rw [e]; exact key _
  · rw [e]; exact key _
  · rw [e]; exact key _
theorem xs_tryDrop {ts : Addr → Value → Option Addr → TS} (h : Ea E t δ as) (hR : R as d) (k : Φ (.nx δ)) : Xs E (tTryK E.K c i (fun W => tDrop (tCallS (spU E.K R C) (WE W) t)) ts) δ Φ := fun σ G H X s p =>
  trS_ret s h hR fun v G2 H2 g r => p _ k σ G2 H2 g.g (s.grow g)
theorem xs_tryAsg {ts : Addr → Value → Option Addr → TS} {m : Nat} (h : Ea E t δ as) (hR : R as d) (k : Φ (.nx (δ.set m (.d d)))) : Xs E (tTryK E.K c i (fun W => tAsg (tCallS (spU E.K R C) (WE W) t) (gName m)) ts) δ Φ := fun σ G H X s p =>
  trS_ret s h hR fun v G2 H2 g r => p _ k _ G2 H2 g.g ((s.grow g).setD m r)
theorem xs_tryRet {ts : Addr → Value → Option Addr → TS} (h : Ea E t δ as) (hR : R as d) (k : Φ (.rt d)) : Xs E (tTryK E.K c i (fun W => tRet (tCallS (spU E.K R C) (WE W) t)) ts) δ Φ := fun σ G H X s p =>
  trS_ret s h hR fun v G2 H2 g r => p _ k v G2 H2 (s.gr.trans g) r
/-- expressions around one that raises -/
theorem evX_andL (h : EvX E ta δ) : EvX E (tAndV ta tb) δ := fun σ G H Q s => h σ G H _ s
theorem etX_B (h : EvX E ta δ) : ∀ σ G H Q, St E δ σ G H → tB ta σ H Q := fun σ G H Q s => h σ G H _ s
theorem evX_lc {K : PySem.W.Frag} {g : TG} {tt : TT} {vs : List Nat} (h : EvX E ta δ) : EvX E (tLc (iList K ta) g tt te vs) δ := fun σ G H Q s => h σ G H _ s
theorem evX_cb {rc : List V → Hp → VK → Prop} {tr : TA} (h : EvX E ta δ) : EvX E (tCB rc (tCons ta tr)) δ := fun σ G H Q s => h σ G H _ s
theorem xs_forX {K : PySem.W.Frag} {g : TG} {tb : TS} (h : EvX E ta δ) : Xs E (tFor (iList K ta) g tb) δ Φ := fun σ G H X s p => h σ G H _ s
/-- != of a dict with itself, empty -/
theorem ev_neE (ha : Ev E ta δ (.dict [])) (hb : Ev E tb δ (.dict [])) : Ev E (tOp (rOr (rNeD E.K) rNeDA) ta tb) δ (.bool false) := fun σ G H Q s k => ha σ G H _ s fun v G1 H1 g1 r1 => hb σ G1 H1 _ (s.grow g1) fun w G2 H2 g2 r2 => by
  obtain ⟨a, ks, e1, h1, q1⟩ := Rp.mono g2.g _ _ r1
  obtain ⟨b, ls, e2, h2, q2⟩ := r2
  have q1 : ks = [] := q1
  have q2 : ls = [] := q2
  subst e1 e2 q1 q2
  exact .inr ⟨a, b, [], [], rfl, rfl, g2.i _ _ h1, g2.i _ _ h2, rfl, (fun _ z => nomatch z), k _ G2 H2 (g1.trans g2) rfl⟩
theorem ev_neO {d1 d2 : D} (ha : Ev E ta δ d1) (hb : Ev E tb δ d2) (s1 : SeqAt.shaped d1 = true) (s2 : SeqAt.shaped d2 = true) : Ev E (tOp (rOr (rNeD E.K) rNeDA) ta tb) δ (.bool (!PyData.eqv d1 d2)) :=
  ev_op ha hb (op_val (v := .bl (!PyData.eqv d1 d2)) (fun G H x y Q i _ a b q => .inl ⟨d1, d2, dp_of i _ _ (shp_lay s1) a, dp_of i _ _ (shp_lay s2) b, s1, s2, q⟩) fun _ => rfl)
end

/-! ### the program's exception classes -/
inductive Xn where
  | StoneError | NoStones | NoStone | NoLaying | NoChain | NoSide | NoFit | NoDeed | Full | NoText
  deriving DecidableEq
def Xn.str : Xn → Str
  | .StoneError => "StoneError"
  | .NoStones => "NoStones"
  | .NoStone => "NoStone"
  | .NoLaying => "NoLaying"
  | .NoChain => "NoChain"
  | .NoSide => "NoSide"
  | .NoFit => "NoFit"
  | .NoDeed => "NoDeed"
  | .Full => "Full"
  | .NoText => "NoText"
abbrev XA := Xn → Addr
def mkXA (x0 x1 x2 x3 x4 x5 x6 x7 x8 x9 : Addr) : XA
  | .StoneError => x0
  | .NoStones => x1
  | .NoStone => x2
  | .NoLaying => x3
  | .NoChain => x4
  | .NoSide => x5
  | .NoFit => x6
  | .NoDeed => x7
  | .Full => x8
  | .NoText => x9
/-- c stands right under StoneError, and under no other one but itself -/
def Xn.sub : Xn → Xn → Bool
  | _, .StoneError => true
  | .NoStones, .NoStones => true
  | .NoStone, .NoStone => true
  | .NoLaying, .NoLaying => true
  | .NoChain, .NoChain => true
  | .NoSide, .NoSide => true
  | .NoFit, .NoFit => true
  | .NoDeed, .NoDeed => true
  | .Full, .Full => true
  | .NoText, .NoText => true
  | _, _ => false
theorem Xn.sub_self : ∀ c : Xn, Xn.sub c c = true := fun c => by cases c <;> rfl
abbrev veMro : List Value := [.type "ValueError", .type "Exception", .type "BaseException", .type "object"]
theorem cls_refs (xa : XA) : ∀ ds : List Xn, Paired ClsV (ds.map fun d => V.ref (xa d)) (ds.map fun d => Value.ref (xa d))
  | [] => .nil
  | d :: ds => .cons (.own _) (cls_refs xa ds)
/-! ### a list of defs, one of them called -/
structure HeldX (P : Program) (w : World) (K : PySem.W.Frag) (mg : Str → Option Value) (base : Heap) (k : Nat) (f : Addr) (sp : Sp) : Prop where
  ex : ∃ (fd : FuncData) (ps : List Str), FnOk P w K mg base (L2.CX P w) k f fd ps sp ∧ PySem.W.keepIn K (.ref f) = true ∧ Binds K fd ps []
theorem ClX.held {P : Program} {w : World} {K : PySem.W.Frag} {mg : Str → Option Value} {base : Heap} {k : Nat} {x : Str} {sp : Sp} (c : ClX P w K mg base k x sp) : ∃ f, mg x = some (.ref f) ∧ HeldX P w K mg base k f sp := by
  obtain ⟨f, fd, ps, F, hm, kp, b⟩ := c.ex
  exact ⟨f, hm, fd, ps, F, kp, b⟩
def tCallX (tf : TE) (S : List (Addr × Sp)) (E : XK) (t : TA) : TE := fun σ H Q => tf σ H fun v H1 => ∃ f sp, v = .ref f ∧ (f, sp) ∈ S ∧ t σ H1 fun vs H2 => sp vs H2 Q E
theorem pe_callX {X : Cx} {j : Nat} {S : List (Addr × Sp)} {E : XK} {tf : TE} {t : TA} {fe e : Expr} {es : List Expr} {pos : Pos} (A : ∀ p ∈ S, ∃ k, k ≤ j ∧ HeldX X.prog X.w X.K X.mg X.base k p.1 p.2) (hr : Room j X.A) (tk : Takes X (fun cls d _ H => E cls d H)) (hf : PE X fe tf) (ha : PA X (e :: es) t)
    (hcall : eval (.Call fe (e :: es) [] pos) X.env = (do callWith pos (← eval fe X.env) [] (backTo pos (starEach (e :: es) X.env)) (backToKw pos (keywordEach [] X.env))) := by rfl)
    (he : starEach (e :: es) X.env = (false, eval e X.env) :: starEach es X.env := by rfl) (hpl : (backTo pos (starEach es X.env)).any (·.1) = false := by rfl) : PE X (.Call fe (e :: es) [] pos) (tCallX tf S E t) := by
  refine ⟨fun pins s σ H Q I h => ?_⟩
  rw [hcall]
  refine wpAny_bind (thn (hf.run pins s σ H _ I h) fun u s1 ⟨v, H1, I1, r1, q1⟩ => ?_)
  obtain ⟨f, sp, rfl, hS, ht⟩ := q1
  obtain ⟨k, hk, fd, ps, F, kp, b⟩ := A _ hS
  cases r1
  refine PySem.W.callWith_K (h₀ := X.base) I1.ok.mod.kin kp (thn (ha.run pos pins s1 σ _ _ I1 ht) fun us s2 ⟨vs, H2, I2, r, q⟩ => ⟨I2.kIn, ?_⟩) he hpl
  exact run_fn F (hr.mono hk) b .nil (passes_call tk fun _ _ _ _ h => h) I2 r (by rw [List.append_nil]; exact q)
section
variable {E : Ent} {δ : List Sl} {ta : TE} {t : TA} {as : List Sl} {R : List Sl → D → Prop} {C : List Sl → Value → Prop} {c : Value} {W : XK}
theorem ix_fns {fs : List Addr} {f : Addr} {i : Int} {σ : L2.St} {G H : Hp} {Q : VK} (s : St E δ σ G H) (hi : Ev E ta δ (.int i)) (hf : atI fs i = some f) (hz : fs.length ≤ 1000) (k : ∀ G2 H2, Gr G H G2 H2 → Q (.ref f) H2) :
    tOp (rIxL E.K) (tLst (clsT (fs.map V.ref))) ta σ H Q := by
  refine clsT_run _ _ ⟨by rw [List.length_map]; exact Nat.le_trans hz (by decide), fun p hp => ?_⟩
  have g1 : Gr G H G (upd H p (.lst (fs.map V.ref))) := Gr.side s.i (same_new hp)
  refine hi σ G _ _ (s.grow g1) fun y G2 H2 g2 r => ?_
  have r : y = .int i := r
  subst r
  obtain ⟨j, h1, h2⟩ := ixN_of (ys := fs.map V.ref) (by rw [List.length_map]) hf
  exact ⟨p, fs.map V.ref, i, .ref f, rfl, rfl, SqL.of (g2.h _ _ upd_same), h2 _ (by rw [List.getElem?_map, h1]; rfl), k G2 H2 (g1.trans g2)⟩
theorem evX_callX {fs : List Addr} {f : Addr} {i : Int} {S : List (Addr × Sp)} (hi : Ev E ta δ (.int i)) (hf : atI fs i = some f) (hz : fs.length ≤ 1000) (hS : (f, spU E.K R C) ∈ S) (h : Ea E t δ as) (hC : C as c) (hW : Wm E W c) : EvX E (tCallX (tOp (rIxL E.K) (tLst (clsT (fs.map V.ref))) ta) S W t) δ := fun σ G H Q s =>
  ix_fns s hi hf hz fun G1 H1 g1 => ⟨f, _, rfl, hS, h σ G1 H1 _ (s.grow g1) fun us G2 H2 g2 r2 => ⟨G2, as, g2.i, r2, .inr ⟨c, hC, fun G3 H3 g3 => hW G3 H3 (s.gr.trans ((g1.trans g2).trans g3))⟩⟩⟩
end
section
variable {X : Cx} {k j : Nat} {sp : Sp} {x : Str} {p pos : Pos} {e : Expr} {es : List Expr} {t : TA}
/-- a def that may raise, called where it does not -/
theorem pe_clX0 (c : ClX X.prog X.w X.K X.mg X.base k x sp) (hr : Room j X.A) (hk : k ≤ j) (hg : Gl X x) (ha : PA X (e :: es) t)
    (hdb : (x == ("__debug__" : Str)) = false := by decide) (he : starEach (e :: es) X.env = (false, eval e X.env) :: starEach es X.env := by rfl) (hpl : (backTo pos (starEach es X.env)).any (·.1) = false := by rfl) :
    PE X (.Call (.Name x p) (e :: es) [] pos) (tCall sp [] E0 t) := by
  obtain ⟨f, fd, ps, F, hm, kp, b⟩ := c.ex
  exact pe_call F (hr.mono hk) hg hm kp b .nil passL ha hdb he hpl
end
end PL

/-! PTup: t[::-1] of a pair; slices of lists, text and data. -/
namespace PL
open PySem PySem.Spec PyProof.Rows L2 HT
section
variable {prog : Program} {w : World} {A : Around} {E : Value → Shared → Prop} {s : Shared}
theorem applied_rev {sl : Addr} {vl vu vs : Value} {Q : Int × Int × Nat → Shared → Prop} (hs : s.heap.IsSliceOf sl vl vu vs) (pl : IsPart vl none) (pu : IsPart vu none) (ps : IsPart vs (some (-1)))
    (h : Q ((1 : Int), (-1 : Int), 2) s) : wpAny (model prog w) A (Builtin.Slice.sliceApplied (.ref sl) (pure ((2 : Nat) : Int))) Q E s := by
  obtain ⟨os, hos, hcs, hds⟩ := id hs
  unfold Builtin.Slice.sliceApplied Builtin.Slice.sliceFields
  refine wpAny_bind (wpAny_bind (wpAny_field hos hds (x := vl) rfl (wpAny_bind (wpAny_field hos hds (x := vu) rfl (wpAny_bind (wpAny_field hos hds (x := vs) rfl (wpAny_pure ?_)))))))
  refine wpAny_bind (slicePart_ ps ?_)
  show wpAny _ _ (if ((-1 : Int) == 0) = true then _ else _) _ _ s
  rw [if_neg (by decide)]
  refine wpAny_bind (slicePart_ pl (wpAny_bind (slicePart_ pu (wpAny_bind (wpAny_pure ?_)))))
  exact wpAny_pure h
theorem getItem_pair_rev {t sl : Addr} {x y : Value} {vl vu vs : Value} {Q : Value → Shared → Prop} (ht : IsTup s.heap t #[x, y]) (hs : s.heap.IsSliceOf sl vl vu vs) (pl : IsPart vl none) (pu : IsPart vu none) (ps : IsPart vs (some (-1)))
    (h : Q (.ref s.heap.objs.size) { s with heap := s.heap.push { cls := .type "tuple", data := .seq #[y, x] } }) : wpAny (model prog w) A (getItem (.ref t) (.ref sl)) Q E s := by
  have htake : sizeOk (.seq #[y, x]) := by
    show 2 ≤ sizeLine
    decide
  obtain ⟨os, hos, hcs, hds⟩ := id hs
  have hTs : s.TypeIs (.ref sl) "slice" := ⟨os, hos, hcs⟩
  unfold getItem
  try with_reducible refine wpAny_holding ?_
  first | refine wpAny_bind (wpAny_pure ?_) | skip
  refine wpAny_bind (wpAny_sequenceKey ht.typeIs (by decide) ?_)
  refine wpAny_bind (wpAny_callSpecial?_slot (name := Str.ofString "__getitem__") ht.typeIs PyProof.Rows.slot_tuple_getitem
    (wpAny_call_entry PyProof.Rows.slot_tuple_getitem ht.typeIs entry_tuple_getitem ?_ (args_tuple_getitem _ _)))
  show wpAny _ _ (Builtin.Tuple.tupleItemsOf (.ref t) >>= _) _ _ s
  refine wpAny_bind (tupleItemsOf_ ht ?_)
  refine wpAny_bind (wpAny_typeOf hTs ?_)
  rw [if_pos (by decide)]
  refine wpAny_bind (applied_rev hs pl pu ps ?_)
  show wpAny _ _ (if (((1 : Int) == 0) && ((-1 : Int) == 1) && (2 == (#[x, y] : Array Value).size)) = true then _ else _) _ _ s
  rw [if_neg (by show ¬ (false && _ && _) = true; simp)]
  have e : ((List.range 2).filterMap fun (k : Nat) => (#[x, y] : Array Value)[((1 : Int) + (k : Int) * (-1)).toNat]?).toArray = #[y, x] := rfl
  rw [e]
  first
    | exact wpAny_bind (m := Builtin.Tuple.tupleExact _) (wpAny_newObj_type (wpAny_pure ⟨_, rfl, wpAny_pure h⟩) htake)
    | exact wpAny_bind (m := Builtin.Tuple.tupleExact _) (wpAny_newObj_type (wpAny_bind (wpAny_pure (wpAny_pure ⟨_, rfl, wpAny_pure h⟩))) htake)
    | exact wpAny_bind (wpAny_bind (m := Builtin.Tuple.tupleExact _) (wpAny_newObj_type (wpAny_pure (wpAny_pure ⟨_, rfl, wpAny_pure h⟩)) htake))
    | exact wpAny_bind (wpAny_bind (m := Builtin.Tuple.tupleExact _) (wpAny_newObj_type (wpAny_pure ⟨_, rfl, wpAny_pure h⟩) htake))
end
/-- t[::-1], t a pair -/
def tRevT (K : PySem.W.Frag) (te : TE) : TE := fun σ H Q => te σ H fun x H1 => ∃ a u v, x = .ref a ∧ SqT K H1 a [u, v] ∧ ∀ p, H1 p = none → Q (.ref p) (upd H1 p (.tup [v, u]))
theorem pe_revT {X : Cx} {e : Expr} {te : TE} {k : Nat} {p1 p2 p3 pos : Pos} (he : PE X e te) : PE X (.Subscript e (.Slice none none (some (.UnaryOp .USub (.Constant (.int 1) k p1) p2)) p3) pos) (tRevT X.K te) := by
  refine ⟨fun pins s σ H Q I h => ?_⟩
  refine Subscript_ (thn (he.run pins s σ H _ I h) fun v s1 ⟨x, H1, I1, r1, q1⟩ => ?_)
  obtain ⟨a, xu, xv, ex, hx, q⟩ := q1
  subst ex
  cases r1
  have hst : PO X (some (.UnaryOp .USub (.Constant (.int 1) k p1) p2)) (tPart (tUn (rU fun i => .int (-i)) (tC (.int 1)))) := po_some (pe_un un_neg pe_int)
  refine wpAny_Slice (thn (po_none.run pins s1 σ H1 (fun o H2 => o = none ∧ H2 = H1) I1 ⟨rfl, rfl⟩) fun vl s2 ⟨l, H2, I2, pl, el, e2⟩ => ?_)
  subst el e2
  refine thn (po_none.run pins s2 σ H2 (fun o H3 => o = none ∧ H3 = H2) I2 ⟨rfl, rfl⟩) fun vu s3 ⟨u, H3, I3, pu, eu, e3⟩ => ?_
  subst eu e3
  refine thn (hst.run pins s3 σ H3 (fun o H4 => o = some (-1) ∧ H4 = H3) I3 ⟨1, rfl, -1, rfl, rfl, rfl⟩) fun vs s4 ⟨o, H4, I4, ps, eo, e4⟩ => ?_
  subst eo e4
  have I5 : Inv X pins σ H4 { s4 with heap := s4.heap.push { cls := .type "slice", data := .fields #[vl, vu, vs] } } := I4.kept (t' := s4.toks) fun b ob q => Heap.get?_push_of_some _ q
  obtain ⟨its, r, ht, hz⟩ := I5.tuple hx
  obtain ⟨u1, u2, rfl, r1, r2⟩ : ∃ u1 u2, its = [u1, u2] ∧ RelV xu u1 ∧ RelV xv u2 := by
    cases r with
    | cons p q =>
      cases q with
      | cons p' q' => cases q'; exact ⟨_, _, rfl, p, p'⟩
  show wpAny (model X.prog X.w) X.A (subscriptTail e (.Slice none none (some (.UnaryOp .USub (.Constant (.int 1) k p1) p2)) p3) (.ref a) (.ref s4.heap.objs.size)) (EP X pins σ Q) X.xe { s4 with heap := s4.heap.push { cls := .type "slice", data := .fields #[vl, vu, vs] } }
  refine tail_any (ops := [.ref a, .ref s4.heap.objs.size]) ht.typeIs (PyProof.Rows.slot_tuple_getitem.lookup) ?_ (by with_unfolding_all rfl)
  refine getItem_pair_rev ht (Heap.IsSliceOf.new _ vl vu vs) pl pu ps ?_
  refine ⟨.ref _, _, I5.laid (t' := s4.toks) (o := .tup [xv, xu]) (fun b ob q => Heap.get?_push_of_some _ q) (Nat.le_refl _) ?_, rfl, q _ (I5.hok.fresh (Nat.le_refl _))⟩
  exact ⟨by show 2 ≤ sizeLine; decide, [u2, u1], .cons r2 (.cons r1 .nil), IsTup.new _ _⟩

/-! ### on data -/
section
variable {E : Ent} {δ δ' : List Sl} {ta tb te tc : TE} {d x y : D}
theorem ev_revT {x y : D} (ha : Ev E ta δ (.tuple [x, y])) : Ev E (tRevT E.K ta) δ (.tuple [y, x]) := fun σ G H Q s k => ha σ G H _ s fun v G1 H1 g r => by
  obtain ⟨a, vs, e, h1, u, r1, e2, h2, u2, r2, e3, h3, e4⟩ := r
  subst e e2 e3 e4
  refine ⟨a, u, u2, rfl, sqT_of g.i h1, fun p hp => ?_⟩
  have gr : Gr G1 H1 (upd G1 p (.tup [u2, u])) (upd H1 p (.tup [u2, u])) := Gr.new g.i hp
  exact k _ _ _ (g.trans gr) ⟨p, [u2, u], rfl, upd_same, u2, [u], rfl, Rp.mono gr.g _ _ h3, u, [], rfl, Rp.mono gr.g _ _ h2, rfl⟩
/-- a part of a slice -/
def Eo (E : Ent) (to : TO) (δ : List Sl) (o : Option Int) : Prop := ∀ σ G H (Q : Option Int → Hp → Prop), St E δ σ G H → (∀ G2 H2, Gr G H G2 H2 → Q o H2) → to σ H Q
theorem eo_no : Eo E tNoPart δ none := fun σ G H Q s k => k G H (Gr.refl s.i)
theorem eo_i {i : Int} (h : Ev E te δ (.int i)) : Eo E (tPart te) δ (some i) := fun σ G H Q s k => h σ G H _ s fun v G1 H1 g r => ⟨i, r, k G1 H1 g⟩
def cutD {α : Type} (xs : List α) (lo hi : Option Int) : List α := (xs.drop (HT.sIx xs.length 0 lo)).take (HT.sIx xs.length xs.length hi - HT.sIx xs.length 0 lo)
theorem evF_slL {xs : List D} {tl th : TO} {lo hi : Option Int} (ha : Ev E ta δ (.list xs)) (hl : Eo E tl δ lo) (hh : Eo E th δ hi) : EvF E (tSl (rSlL E.K) ta tl th) δ (cutD xs lo hi) := fun σ G H Q s k =>
  ha σ G H _ s fun v G1 H1 g1 r => hl σ G1 H1 _ (s.grow g1) fun G2 H2 g2 => hh σ G2 H2 _ (s.grow (g1.trans g2)) fun G3 H3 g3 => by
    obtain ⟨a, vs, e, h1, h2⟩ := r
    subst e
    have g := (g1.trans g2).trans g3
    have h1' := (g2.g.trans g3.g) _ _ h1
    have h2' := RpA.mono (g2.g.trans g3.g) _ _ h2
    refine ⟨a, vs, rfl, sqL_of g3.i h1', fun p hp => ?_⟩
    refine k p _ G3 _ (g.trans (Gr.side g3.i (same_new hp))) (g.h.free hp) (g3.i.free hp) upd_same ?_
    unfold cutV cutD
    rw [h2'.len]
    exact (h2'.drop _).take _
theorem sIx_nat (n d j : Nat) : HT.sIx n d (some (j : Int)) = min j n := by
  unfold HT.sIx
  simp
  try omega
theorem cut_to {α : Type} (xs : List α) (j : Nat) : cutD xs none (some (j : Int)) = xs.take j := by
  unfold cutD
  rw [sIx_nat]
  show (xs.drop 0).take (min j xs.length - 0) = _
  rw [List.drop_zero, Nat.sub_zero]
  by_cases h : j ≤ xs.length
  · rw [Nat.min_eq_left h]
  · rw [Nat.min_eq_right (by omega), List.take_length, List.take_of_length_le (by omega)]
theorem cut_from {α : Type} (xs : List α) (j : Nat) : cutD xs (some (j : Int)) none = xs.drop j := by
  unfold cutD
  rw [sIx_nat]
  show (xs.drop (min j xs.length)).take (xs.length - min j xs.length) = _
  by_cases h : j ≤ xs.length
  · rw [Nat.min_eq_left h, List.take_of_length_le (by rw [List.length_drop]; exact Nat.le_refl _)]
  · rw [Nat.min_eq_right (by omega), List.drop_length, List.take_nil, List.drop_of_length_le (by omega)]
end
end PL

/-! M1: what the small defs compute, in plain Lean; what each def is handed and hands back. -/
namespace PL
open PySem L2

/-! ### the stones' test -/
def isWhole : D → Bool
  | .int _ => true
  | _ => false
def inRange : D → Bool
  | .int i => decide (0 ≤ i) && decide (i ≤ 999999)
  | _ => false
def isStone : D → Bool
  | .tuple ds => decide (ds.length = 2) && ds.all inRange
  | _ => false
def isStones : D → Bool
  | .list ds => decide (ds.length ≤ 60) && ds.all isStone
  | _ => false
theorem isStone_st {s : Int × Int} (h : okN s.1 ∧ okN s.2) : isStone (stD s) = true := by
  obtain ⟨⟨h1, h2⟩, h3, h4⟩ := h
  simp [isStone, stD, inRange, h1, h2, h3, h4]
theorem isStones_of {ss : List (Int × Int)} (h : OkS ss) : isStones (stonesD ss) = true := by
  show (decide ((ss.map stD).length ≤ 60) && (ss.map stD).all isStone) = true
  rw [List.length_map, decide_eq_true h.len, Bool.true_and, List.all_map]
  exact List.all_eq_true.mpr fun s hs => isStone_st (h.mem s hs)
def R_is_whole (as : List Sl) (d : D) : Prop := ∃ x, as = [.d x] ∧ d = .bool (isWhole x)
def R_is_stone (as : List Sl) (d : D) : Prop := ∃ x, as = [.d x] ∧ (∀ ds, x = .tuple ds → ds.length ≤ 1000) ∧ d = .bool (isStone x)
def R_need_stones (as : List Sl) (d : D) : Prop := ∃ x, as = [.d x] ∧ isStones x = true ∧ d = .none
def sp_is_whole (K : PySem.W.Frag) : Sp := spR K R_is_whole
def sp_is_stone (K : PySem.W.Frag) : Sp := spR K R_is_stone
def sp_need_stones (K : PySem.W.Frag) : Sp := spR K R_need_stones

/-! ### cells -/
def cell0 (ns : List Int) (k : Int) : Int := if ns = [] then 7919 * k + 11 else ns.getD (k % (ns.length : Int)).toNat 0 * 48271 + 104729 * k + k / (ns.length : Int) * 7919
def cellA (ns : List Int) (k : Int) : Int := cell0 ns k % 2147483647
def cellB (ns : List Int) (k : Int) : Int := cellA ns k * cellA ns k % 2147483629
def cellF (ns : List Int) (k : Int) : Int := (cellB ns k * cellB ns k + 69621 * cellB ns k + k) % 2147483587
theorem cellA_b (ns : List Int) (k : Int) : 0 ≤ cellA ns k ∧ cellA ns k < 2147483647 := ⟨Int.emod_nonneg _ (by decide), Int.emod_lt_of_pos _ (by decide)⟩
theorem cellB_b (ns : List Int) (k : Int) : 0 ≤ cellB ns k ∧ cellB ns k < 2147483629 := ⟨Int.emod_nonneg _ (by decide), Int.emod_lt_of_pos _ (by decide)⟩
theorem cellF_b (ns : List Int) (k : Int) : 0 ≤ cellF ns k ∧ cellF ns k < 2147483587 := ⟨Int.emod_nonneg _ (by decide), Int.emod_lt_of_pos _ (by decide)⟩
def R_cell (as : List Sl) (d : D) : Prop := ∃ ns k, as = [.s ns, .d (.int k)] ∧ ns.length ≤ 63 ∧ d = .int (cellF ns k)
def sp_cell (K : PySem.W.Frag) : Sp := spR K R_cell

/-! ### drawn stones -/
abbrev kindF (ns : List Int) : Int := cellF ns 1
def manyF (ns : List Int) : Nat := (max (min (ns.length : Int) 60) (kindF ns / 4 % 16)).toNat
def mostL : List Int := [3, 6, 14, 1000000]
def mostF (ns : List Int) (k : Nat) : Int := mostL.getD ((kindF ns % 4 + cellF ns (10 + (k : Int)) / 1000 % 9 / 8) % 4).toNat 0
def stoneA (ns : List Int) (k : Nat) : Int := cellF ns (10 + (k : Int)) / 7 % mostF ns k
def stoneB (ns : List Int) (k : Nat) : Int := cellF ns (100 + (k : Int)) / 5 % mostF ns k
def stoneF (ns : List Int) (k : Nat) : Int × Int := if cellF ns (10 + (k : Int)) % 23 = 1 then (stoneA ns k, stoneA ns k) else (stoneA ns k, stoneB ns k)
def stonesF (ns : List Int) : List (Int × Int) := (List.range (manyF ns)).map (stoneF ns)
theorem many_b {ns : List Int} : manyF ns ≤ 60 := by
  unfold manyF
  have h1 := (cellF_b ns 1).1
  have h2 : kindF ns / 4 % 16 < 16 := Int.emod_lt_of_pos _ (by decide)
  omega
theorem most_ix (ns : List Int) (k : Nat) : ∃ j : Nat, (kindF ns % 4 + cellF ns (10 + (k : Int)) / 1000 % 9 / 8) % 4 = (j : Int) ∧ j < 4 := by
  have h1 : 0 ≤ (kindF ns % 4 + cellF ns (10 + (k : Int)) / 1000 % 9 / 8) % 4 := Int.emod_nonneg _ (by decide)
  have h2 : (kindF ns % 4 + cellF ns (10 + (k : Int)) / 1000 % 9 / 8) % 4 < 4 := Int.emod_lt_of_pos _ (by decide)
  exact ⟨_, (Int.toNat_of_nonneg h1).symm, by omega⟩
theorem mostL_get {j : Nat} (h : j < 4) : mostL[j]? = some (mostL.getD j 0) ∧ 3 ≤ mostL.getD j 0 ∧ mostL.getD j 0 ≤ 1000000 := by
  match j, h with
  | 0, _ => exact ⟨rfl, by decide, by decide⟩
  | 1, _ => exact ⟨rfl, by decide, by decide⟩
  | 2, _ => exact ⟨rfl, by decide, by decide⟩
  | 3, _ => exact ⟨rfl, by decide, by decide⟩
theorem most_b (ns : List Int) (k : Nat) : 3 ≤ mostF ns k ∧ mostF ns k ≤ 1000000 := by
  obtain ⟨j, e, hj⟩ := most_ix ns k
  unfold mostF
  rw [e, Int.toNat_natCast]
  exact (mostL_get hj).2
theorem stoneA_b (ns : List Int) (k : Nat) : okN (stoneA ns k) := by
  have h := most_b ns k
  have h1 : 0 ≤ stoneA ns k := Int.emod_nonneg _ (by omega)
  have h2 : stoneA ns k < mostF ns k := Int.emod_lt_of_pos _ (by omega)
  exact ⟨h1, by omega⟩
theorem stoneB_b (ns : List Int) (k : Nat) : okN (stoneB ns k) := by
  have h := most_b ns k
  have h1 : 0 ≤ stoneB ns k := Int.emod_nonneg _ (by omega)
  have h2 : stoneB ns k < mostF ns k := Int.emod_lt_of_pos _ (by omega)
  exact ⟨h1, by omega⟩
theorem stonesF_len (ns : List Int) : (stonesF ns).length = manyF ns := by simp [stonesF]
theorem stonesF_ok (ns : List Int) : OkS (stonesF ns) where
  len := by rw [stonesF_len]; exact many_b
  mem := fun s hs => by
    obtain ⟨k, _, e⟩ := List.mem_map.mp hs
    subst e
    unfold stoneF
    split
    · exact ⟨stoneA_b ns k, stoneA_b ns k⟩
    · exact ⟨stoneA_b ns k, stoneB_b ns k⟩
def R_stones (as : List Sl) (d : D) : Prop := ∃ ns, as = [.s ns] ∧ ns.length ≤ 63 ∧ d = stonesD (stonesF ns)
def sp_stones (K : PySem.W.Frag) : Sp := spR K R_stones

/-! ### rising lists -/
def ins (x : Int) : List Int → List Int
  | [] => [x]
  | y :: l => if x ≤ y then x :: y :: l else y :: ins x l
def isort : List Int → List Int
  | [] => []
  | x :: l => ins x (isort l)
theorem ins_perm (x : Int) : ∀ l, (ins x l).Perm (x :: l)
  | [] => .refl _
  | y :: l => by
    unfold ins
    split
    · exact .refl _
    · exact ((ins_perm x l).cons y).trans (.swap x y l)
theorem isort_perm : ∀ l, (isort l).Perm l
  | [] => .refl _
  | x :: l => (ins_perm x _).trans ((isort_perm l).cons x)
theorem ins_rise (x : Int) : ∀ l, l.Pairwise (· ≤ ·) → (ins x l).Pairwise (· ≤ ·)
  | [], _ => List.pairwise_singleton _ _
  | y :: l, h => by
    obtain ⟨h1, h2⟩ := List.pairwise_cons.mp h
    unfold ins
    split
    · rename_i c
      refine List.pairwise_cons.mpr ⟨fun z hz => ?_, h⟩
      rcases List.mem_cons.mp hz with e | e
      · subst e; exact c
      · exact Int.le_trans c (h1 z e)
    · rename_i c
      refine List.pairwise_cons.mpr ⟨fun z hz => ?_, ins_rise x l h2⟩
      rcases List.mem_cons.mp ((ins_perm x l).mem_iff.mp hz) with e | e
      · subst e; omega
      · exact h1 z e
theorem isort_rise : ∀ l, (isort l).Pairwise (· ≤ ·)
  | [] => .nil
  | x :: l => ins_rise x _ (isort_rise l)
theorem rise_unique : ∀ {a b : List Int}, a.Perm b → a.Pairwise (· ≤ ·) → b.Pairwise (· ≤ ·) → a = b
  | [], b, p, _, _ => by have := p.length_eq; cases b with | nil => rfl | cons _ _ => simp at this
  | x :: a, [], p, _, _ => by have := p.length_eq; simp at this
  | x :: a, y :: b, p, h1, h2 => by
    obtain ⟨h3, h4⟩ := List.pairwise_cons.mp h1
    obtain ⟨h5, h6⟩ := List.pairwise_cons.mp h2
    have e : x = y := by
      have m1 : x ∈ y :: b := p.mem_iff.mp List.mem_cons_self
      have m2 : y ∈ x :: a := p.mem_iff.mpr List.mem_cons_self
      rcases List.mem_cons.mp m1 with e | e
      · exact e
      · rcases List.mem_cons.mp m2 with e2 | e2
        · exact e2.symm
        · have := h5 x e; have := h3 y e2; omega
    subst e
    rw [rise_unique (List.Perm.cons_inv p) h4 h6]
theorem isort_is {l m : List Int} (p : m.Perm l) (h : m.Pairwise (· ≤ ·)) : m = isort l := rise_unique (p.trans (isort_perm l).symm) h (isort_rise l)
theorem strict_nodup : ∀ {l : List Int}, l.Pairwise (· < ·) → l.Nodup := fun h => h.imp fun {a b} c e => by subst e; exact absurd c (Int.lt_irrefl _)
theorem strict_le {l : List Int} (h : l.Pairwise (· < ·)) : l.Pairwise (· ≤ ·) := h.imp fun c => Int.le_of_lt c
/-- the same members, none twice: the same but for the order -/
theorem perm_of_mem {α : Type} [DecidableEq α] {a b : List α} (ha : a.Nodup) (hb : b.Nodup) (h : ∀ x, x ∈ a ↔ x ∈ b) : a.Perm b := by
  rw [List.perm_iff_count]
  intro x
  by_cases m : x ∈ a
  · have m2 := (h x).mp m
    rw [ha.count, hb.count]
    simp [m, m2]
  · have m2 : ¬ x ∈ b := fun z => m ((h x).mpr z)
    rw [List.count_eq_zero_of_not_mem m, List.count_eq_zero_of_not_mem m2]
theorem strict_is {l m : List Int} (hl : l.Nodup) (h : m.Pairwise (· < ·)) (e : ∀ k, k ∈ m ↔ k ∈ l) : m = isort l := isort_is (perm_of_mem (strict_nodup h) hl e) (strict_le h)

/-! ### ends and their counts -/
def endsF (ss : List (Int × Int)) : List Int → List Int
  | [] => []
  | i :: g => let s := ss.getD i.toNat (0, 0); s.1 :: s.2 :: endsF ss g
/-- each number once, as first met -/
def dd (l : List Int) : List Int := l.foldl (fun acc n => if n ∈ acc then acc else acc ++ [n]) []
theorem dd_snoc (l : List Int) (n : Int) : dd (l ++ [n]) = if n ∈ dd l then dd l else dd l ++ [n] := by
  unfold dd
  rw [List.foldl_append]
  rfl
def ddA (acc l : List Int) : List Int := l.foldl (fun acc n => if n ∈ acc then acc else acc ++ [n]) acc
theorem ddA_mem : ∀ (l acc : List Int) (x : Int), x ∈ ddA acc l ↔ x ∈ acc ∨ x ∈ l
  | [], acc, x => by simp [ddA]
  | n :: l, acc, x => by
    show x ∈ ddA (if n ∈ acc then acc else acc ++ [n]) l ↔ _
    rw [ddA_mem l]
    split
    · rename_i h
      simp only [List.mem_cons]
      constructor
      · rintro (h1 | h1)
        · exact .inl h1
        · exact .inr (.inr h1)
      · rintro (h1 | rfl | h1)
        · exact .inl h1
        · exact .inl h
        · exact .inr h1
    · simp only [List.mem_append, List.mem_cons, List.not_mem_nil, or_false, or_assoc]
theorem ddA_nd : ∀ (l acc : List Int), acc.Nodup → (ddA acc l).Nodup
  | [], acc, h => h
  | n :: l, acc, h => by
    show (ddA (if n ∈ acc then acc else acc ++ [n]) l).Nodup
    split
    · exact ddA_nd l acc h
    · rename_i c
      refine ddA_nd l _ ?_
      rw [List.nodup_append]
      exact ⟨h, by simp, fun a ha b hb e => c (by simp at hb; rw [← hb, ← e]; exact ha)⟩
theorem dd_mem {l : List Int} {x : Int} : x ∈ dd l ↔ x ∈ l := by
  have := ddA_mem l [] x
  simpa [dd, ddA] using this
theorem dd_nd (l : List Int) : (dd l).Nodup := ddA_nd l [] .nil
theorem dd_len : ∀ (l : List Int), (dd l).length ≤ l.length := fun l => by
  have h : ∀ (l acc : List Int), (ddA acc l).length ≤ acc.length + l.length := by
    intro l
    induction l with
    | nil => intro acc; exact Nat.le_refl _
    | cons n l ih =>
      intro acc
      show (ddA (if n ∈ acc then acc else acc ++ [n]) l).length ≤ _
      have := ih (if n ∈ acc then acc else acc ++ [n])
      split at this
      · rename_i c; rw [if_pos c]; simp; omega
      · rename_i c; rw [if_neg c]; simp at this ⊢; omega
  have := h l []
  simpa [dd, ddA] using this
/-- the table of counts behind some ends -/
def tallyK (l : List Int) : List (Key × D) := (dd l).map fun n => (Sum.inl n, .int (l.count n : Nat))
theorem valD_map (f : Int → D) (n : Int) : ∀ l : List Int, valD (l.map fun k => ((Sum.inl k : Key), f k)) (.inl n) = if n ∈ l then some (f n) else none
  | [] => by simp [valD]
  | k :: l => by
    have ih := valD_map f n l
    by_cases e : k = n
    · subst e; simp [valD]
    · have e2 : ¬ (Sum.inl k : Key) = Sum.inl n := fun z => e (Sum.inl.inj z)
      have e3 : ¬ n = k := fun z => e z.symm
      simp only [valD, List.map_cons, List.find?_cons, decide_eq_false e2, List.mem_cons, e3, false_or] at ih ⊢
      exact ih
theorem tally_get (l : List Int) (n : Int) : (valD (tallyK l) (.inl n)).getD (.int 0) = .int (l.count n : Nat) := by
  unfold tallyK
  rw [valD_map (fun n => .int (l.count n : Nat))]
  split
  · rfl
  · rename_i h
    have : l.count n = 0 := List.count_eq_zero_of_not_mem fun z => h (dd_mem.mpr z)
    rw [this]; rfl
theorem tally_put (l : List Int) (n : Int) : putD (tallyK l) (.inl n) (.int ((l.count n : Nat) + 1)) = tallyK (l ++ [n]) := by
  have anyM : ∀ (m : List Int) (f : Int → D), ((m.map fun k => ((Sum.inl k : Key), f k)).any fun kv => decide (kv.1 = (Sum.inl n : Key))) = decide (n ∈ m) := by
    intro m f
    induction m with
    | nil => simp
    | cons k m ih =>
      rw [List.map_cons, List.any_cons, ih]
      by_cases e : k = n
      · subst e; simp
      · have e2 : ¬ (Sum.inl k : Key) = Sum.inl n := fun z => e (Sum.inl.inj z)
        have e3 : ¬ n = k := fun z => e z.symm
        simp [e3, e]
  unfold putD tallyK
  rw [anyM, dd_snoc]
  by_cases h : n ∈ dd l
  · rw [decide_eq_true h, if_pos rfl, if_pos h, List.map_map]
    refine List.map_congr_left fun k _ => ?_
    show (if (Sum.inl k : Key) = Sum.inl n then _ else _) = _
    by_cases e : k = n
    · subst e
      rw [if_pos rfl, List.count_append]
      simp
    · rw [if_neg fun z => e (Sum.inl.inj z), List.count_append]
      have : [n].count k = 0 := by simp [Ne.symm e]
      rw [this]; rfl
  · rw [decide_eq_false h, if_neg Bool.false_ne_true, if_neg h, List.map_append]
    have hn : n ∉ l := fun z => h (dd_mem.mpr z)
    congr 1
    · refine List.map_congr_left fun k hk => ?_
      have ne : n ≠ k := fun z => h (by rw [z]; exact hk)
      have : [n].count k = 0 := by simp [ne]
      rw [List.count_append, this]; rfl
    · rw [List.count_eq_zero_of_not_mem hn]
      simp [List.count_append, List.count_eq_zero_of_not_mem hn]
/-- the odd ends -/
def oddB (l : List Int) (n : Int) : Bool := decide ((l.count n : Int) % 2 = 1)
def oddF (ss : List (Int × Int)) (g : List Int) : List Int := isort ((dd (endsF ss g)).filter (oddB (endsF ss g)))
structure OkG (ss : List (Int × Int)) (g : List Int) : Prop where
  len : g.length ≤ 60
  mem : ∀ i ∈ g, 0 ≤ i ∧ i < (ss.length : Int)
theorem endsF_len (ss : List (Int × Int)) : ∀ g, (endsF ss g).length = 2 * g.length
  | [] => rfl
  | i :: g => by
    show (endsF ss g).length + 1 + 1 = _
    rw [endsF_len ss g, List.length_cons]; omega
theorem endsF_snoc (ss : List (Int × Int)) (i : Int) : ∀ g, endsF ss (g ++ [i]) = endsF ss g ++ [(ss.getD i.toNat (0, 0)).1, (ss.getD i.toNat (0, 0)).2]
  | [] => rfl
  | j :: g => by
    show _ :: _ :: endsF ss (g ++ [i]) = _
    rw [endsF_snoc ss i g]; rfl
def R_counted (as : List Sl) (kvs : List (Key × D)) : Prop := ∃ ss g, as = [.d (stonesD ss), .d (intsL g)] ∧ OkS ss ∧ OkG ss g ∧ kvs = tallyK (endsF ss g)
def sp_counted (K : PySem.W.Frag) : Sp := spK K R_counted
def R_odd (as : List Sl) (ds : List D) : Prop := ∃ ss g, as = [.d (stonesD ss), .d (intsL g)] ∧ OkS ss ∧ OkG ss g ∧ ds = (oddF ss g).map .int
def sp_odd_ends (K : PySem.W.Frag) : Sp := spF K R_odd
def sp_law_odd (K : PySem.W.Frag) : Sp := spF K R_odd
end PL

/-! R1: the small defs' readings. -/
namespace PL
open PySem L2
def t_is_whole (K : PySem.W.Frag) (w : World) : TS :=
    (tRet (tAndV (tCB (rIsi K) (tCons (tVar 0) (tCons (tC (.ty "int")) tNil))) (tNotV (tCB (rIsi K) (tCons (tVar 0) (tCons (tC (.ty "bool")) tNil))))))

def t_is_stone (K : PySem.W.Frag) (w : World) : TS :=
    (tSeq (tIfS (tOr (tNot (tB (tCB (rIsi K) (tCons (tVar 0) (tCons (tC (.ty "tuple")) tNil))))) (tTest (tOp (rNe) (tCB (cLen K) (tCons (tVar 0) tNil)) (tC (.int 2)))))
    (tRet (tC (.bl false)))
    tNext)
    (tRet (tCB (rAll K) (tCons (tLc (iTup K (tVar 0)) (gName 1) tYes (tAndV (tCall (sp_is_whole K) [] E0 (tCons (tVar 1) tNil)) (tChain (rI0 fun i j => .bl (decide (i ≤ j))) (rI0 fun i j => .bl (decide (i ≤ j))) (tC (.int 0)) (tVar 1) (tC (.int 999999)))) [1]) tNil))))

def t_need_stones (K : PySem.W.Frag) (w : World) : TS :=
    (tIfS (tOr (tNot (tB (tCB (rIsi K) (tCons (tVar 0) (tCons (tC (.ty "list")) tNil))))) (tOr (tTest (tOp (rI0 fun i j => .bl (decide (j < i))) (tCB (cLen K) (tCons (tVar 0) tNil)) (tC (.int 60)))) (tNot (tB (tCB (rAll K) (tCons (tLc (iList K (tVar 0)) (gName 1) tYes (tCall (sp_is_stone K) [] E0 (tCons (tVar 1) tNil)) [1]) tNil))))))
    tNever
    tNext)

def t_counted (K : PySem.W.Frag) (w : World) : TS :=
    (tSeq (tAsg tDNewK (gName 2))
    (tSeq (tFor (iList K (tVar 1)) (gName 3)
    (tFor (iTup K (tOp (rIxL K) (tVar 0) (tVar 3))) (gName 4)
    (sDPut (tVar 2) (tVar 4) (tOp (rI0 fun i j => .int (i + j)) (tDGet2 (tVar 2) (tVar 4) (tC (.int 0))) (tC (.int 1))))))
    (tRet (tVar 2))))

def t_odd_ends (K : PySem.W.Frag) (w : World) : TS :=
    (tSeq (tDrop (tCall (sp_need_stones K) [] E0 (tCons (tVar 0) tNil)))
    (tSeq (tAsg (tCall (sp_counted K) [] E0 (tCons (tVar 0) (tCons (tVar 1) tNil))) (gName 2))
    (tRet (tCB (rSortedI K) (tCons (tLockE (tLc (iKeys (tVar 2)) (gName 3) (tTest (tOp (rEq) (tOp (rI (fun _ j => 0 < j) fun i j => .int (i % j)) (tDGet (tVar 2) (tVar 3)) (tC (.int 2))) (tC (.int 1)))) (tVar 3) [3])) tNil)))))

def t_cell (K : PySem.W.Frag) (w : World) : TS :=
    (tSeq (tAsg (tOp (rI0 fun i j => .int (i + j)) (tOp (rI CMul fun i j => .int (i * j)) (tC (.int 7919)) (tVar 1)) (tC (.int 11))) (gName 2))
    (tSeq (tIfS (tTest (tOp (rNeD K) (tVar 0) (tLst tNil)))
    (tSeq (tAsg (tOp (rI CMul fun i j => .int (i * j)) (tOp (rIxL K) (tVar 0) (tOp (rI (fun _ j => 0 < j) fun i j => .int (i % j)) (tVar 1) (tCB (cLen K) (tCons (tVar 0) tNil)))) (tC (.int 48271))) (gName 2))
    (tAsg (tOp (rI0 fun i j => .int (i + j)) (tOp (rI0 fun i j => .int (i + j)) (tVar 2) (tOp (rI CMul fun i j => .int (i * j)) (tC (.int 104729)) (tVar 1))) (tOp (rI CMul fun i j => .int (i * j)) (tOp (rI CDiv fun i j => .int (i / j)) (tVar 1) (tCB (cLen K) (tCons (tVar 0) tNil))) (tC (.int 7919)))) (gName 2)))
    tNext)
    (tSeq (tAsg (tOp (rI (fun _ j => 0 < j) fun i j => .int (i % j)) (tVar 2) (tC (.int 2147483647))) (gName 3))
    (tSeq (tAsg (tOp (rI (fun _ j => 0 < j) fun i j => .int (i % j)) (tOp (rI CMul fun i j => .int (i * j)) (tVar 3) (tVar 3)) (tC (.int 2147483629))) (gName 3))
    (tRet (tOp (rI (fun _ j => 0 < j) fun i j => .int (i % j)) (tOp (rI0 fun i j => .int (i + j)) (tOp (rI0 fun i j => .int (i + j)) (tOp (rI CMul fun i j => .int (i * j)) (tVar 3) (tVar 3)) (tOp (rI CMul fun i j => .int (i * j)) (tC (.int 69621)) (tVar 3))) (tVar 1)) (tC (.int 2147483587))))))))

def t_stones (K : PySem.W.Frag) (w : World) : TS :=
    (tSeq (tAsg (tCall (sp_cell K) [] E0 (tCons (tVar 0) (tCons (tC (.int 1)) tNil))) (gName 1))
    (tSeq (tAsg (tLst tNil) (gName 2))
    (tSeq (tFor (iRng1 (tCons (tCB (cMax2) (tCons (tCB (cMin2) (tCons (tCB (cLen K) (tCons (tVar 0) tNil)) (tCons (tC (.int 60)) tNil))) (tCons (tOp (rI (fun _ j => 0 < j) fun i j => .int (i % j)) (tOp (rI CDiv fun i j => .int (i / j)) (tVar 1) (tC (.int 4))) (tC (.int 16))) tNil))) tNil)) (gName 3)
    (tSeq (tAsg (tCall (sp_cell K) [] E0 (tCons (tVar 0) (tCons (tOp (rI0 fun i j => .int (i + j)) (tC (.int 10)) (tVar 3)) tNil))) (gName 4))
    (tSeq (tAsg (tOp (rIxL K) (tLst (tCons (tC (.int 3)) (tCons (tC (.int 6)) (tCons (tC (.int 14)) (tCons (tC (.int 1000000)) tNil))))) (tOp (rI (fun _ j => 0 < j) fun i j => .int (i % j)) (tOp (rI0 fun i j => .int (i + j)) (tOp (rI (fun _ j => 0 < j) fun i j => .int (i % j)) (tVar 1) (tC (.int 4))) (tOp (rI CDiv fun i j => .int (i / j)) (tOp (rI (fun _ j => 0 < j) fun i j => .int (i % j)) (tOp (rI CDiv fun i j => .int (i / j)) (tVar 4) (tC (.int 1000))) (tC (.int 9))) (tC (.int 8)))) (tC (.int 4)))) (gName 5))
    (tSeq (tDrop (tBM K "list" rAppend (tVar 2) (tCons (tTup (tCons (tOp (rI (fun _ j => 0 < j) fun i j => .int (i % j)) (tOp (rI CDiv fun i j => .int (i / j)) (tVar 4) (tC (.int 7))) (tVar 5)) (tCons (tOp (rI (fun _ j => 0 < j) fun i j => .int (i % j)) (tOp (rI CDiv fun i j => .int (i / j)) (tCall (sp_cell K) [] E0 (tCons (tVar 0) (tCons (tOp (rI0 fun i j => .int (i + j)) (tC (.int 100)) (tVar 3)) tNil))) (tC (.int 5))) (tVar 5)) tNil))) tNil)))
    (tIfS (tTest (tOp (rEq) (tOp (rI (fun _ j => 0 < j) fun i j => .int (i % j)) (tVar 4) (tC (.int 23))) (tC (.int 1))))
    (tAsg (tTup (tCons (tOp (rIxT K) (tOp (rIxL K) (tVar 2) (tVar 3)) (tC (.int 0))) (tCons (tOp (rIxT K) (tOp (rIxL K) (tVar 2) (tVar 3)) (tC (.int 0))) tNil))) (gSub (tVar 2) (tVar 3) rSetL))
    tNext)))))
    (tRet (tVar 2)))))

def t_law_odd (K : PySem.W.Frag) (w : World) : TS :=
    (tSeq (tAsg (tLst tNil) (gName 2))
    (tSeq (tFor (iList K (tVar 1)) (gName 3)
    (tAsg (tOp (rCat) (tVar 2) (tCB (cList K) (tCons (tOp (rIxL K) (tVar 0) (tVar 3)) tNil))) (gName 2)))
    (tRet (tCB (rSrtS w) (tCons (tCB (rSetOf K w) (tCons (tLc (iList K (tVar 2)) (gName 4) (tTest (tOp (rEq) (tOp (rI (fun _ j => 0 < j) fun i j => .int (i % j)) (tBM K "list" (rCntI K) (tVar 2) (tCons (tVar 4) tNil)) (tC (.int 2))) (tC (.int 1)))) (tVar 4) [4]) tNil)) tNil)))))


section
variable {E : Ent} {δ δ' : List Sl} {ta tb te tc : TE} {d x y : D} {w : World} {XE : XK}
theorem evc_is_whole (ha : Ev E ta δ x) : Ev E (tCall (sp_is_whole E.K) [] XE (tCons ta tNil)) δ (.bool (isWhole x)) := ev_call (ea_d ha ea_nil) ⟨x, rfl, rfl⟩
theorem evc_is_stone (ha : Ev E ta δ x) (h : ∀ ds, x = .tuple ds → ds.length ≤ 1000) : Ev E (tCall (sp_is_stone E.K) [] XE (tCons ta tNil)) δ (.bool (isStone x)) := ev_call (ea_d ha ea_nil) ⟨x, rfl, h, rfl⟩
theorem evc_need (ha : Ev E ta δ x) (h : isStones x = true) : Ev E (tCall (sp_need_stones E.K) [] XE (tCons ta tNil)) δ .none := ev_call (ea_d ha ea_nil) ⟨x, rfl, h, rfl⟩
theorem evc_cell {i : Nat} {ns : List Int} {k : Int} (h0 : δ[i]? = some (.s ns)) (hz : ns.length ≤ 63) (hb : Ev E tb δ (.int k)) : Ev E (tCall (sp_cell E.K) [] XE (tCons (tVar i) (tCons tb tNil))) δ (.int (cellF ns k)) := ev_call (ea_s h0 (ea_d hb ea_nil)) ⟨ns, k, rfl, hz, rfl⟩
theorem evc_stones {i : Nat} {ns : List Int} (h0 : δ[i]? = some (.s ns)) (hz : ns.length ≤ 63) : Ev E (tCall (sp_stones E.K) [] XE (tCons (tVar i) tNil)) δ (stonesD (stonesF ns)) := ev_call (ea_s h0 ea_nil) ⟨ns, rfl, hz, rfl⟩
theorem evk_counted {ss : List (Int × Int)} {g : List Int} (ha : Ev E ta δ (stonesD ss)) (hb : Ev E tb δ (intsL g)) (h1 : OkS ss) (h2 : OkG ss g) : EvK E (tCall (sp_counted E.K) [] XE (tCons ta (tCons tb tNil))) δ (tallyK (endsF ss g)) := evK_call (ea_d ha (ea_d hb ea_nil)) ⟨ss, g, rfl, h1, h2, rfl⟩
theorem evf_odd {ss : List (Int × Int)} {g : List Int} (ha : Ev E ta δ (stonesD ss)) (hb : Ev E tb δ (intsL g)) (h1 : OkS ss) (h2 : OkG ss g) : EvF E (tCall (sp_odd_ends E.K) [] XE (tCons ta (tCons tb tNil))) δ ((oddF ss g).map .int) := evF_call (ea_d ha (ea_d hb ea_nil)) ⟨ss, g, rfl, h1, h2, rfl⟩
theorem evf_law_odd {ss : List (Int × Int)} {g : List Int} (ha : Ev E ta δ (stonesD ss)) (hb : Ev E tb δ (intsL g)) (h1 : OkS ss) (h2 : OkG ss g) : EvF E (tCall (sp_law_odd E.K) [] XE (tCons ta (tCons tb tNil))) δ ((oddF ss g).map .int) := evF_call (ea_d ha (ea_d hb ea_nil)) ⟨ss, g, rfl, h1, h2, rfl⟩

/-! ### is_whole, is_stone, need_stones -/
theorem xs_is_whole (x : D) : Xs E (t_is_whole E.K w) (argSl [.d x] 0) fun o => o = .rt (.bool (isWhole x)) := by
  refine xs_ret (ev_andV (ev_isi_int (ev_var rfl)) fun e => ev_notV (ev_isi_bool (ev_var rfl))) ?_
  cases x <;> rfl
theorem xs_is_stone (x : D) (hz : ∀ ds, x = .tuple ds → ds.length ≤ 1000) : Xs E (t_is_stone E.K w) (argSl [.d x] 1) fun o => o = .rt (.bool (isStone x)) := by
  by_cases ht : isTupD x = true
  · obtain ⟨ds, rfl⟩ : ∃ ds, x = .tuple ds := by
      cases x
      case tuple ds => exact ⟨ds, rfl⟩
      all_goals cases ht
    have hz := hz ds rfl
    refine q_when (et_or (et_not (et_B (ev_isi_tuple (ev_var rfl)))) fun _ => et_test (ev_neI (ev_lenT (ev_var rfl)) ev_int)) (fun e => ?_) fun e => ?_
    · refine xs_ret ev_bl ?_
      show _ = _
      have e' : (!decide ((ds.length : Int) = 2)) = true := e
      have : ¬ ds.length = 2 := fun z => by rw [z] at e'; simp at e'
      simp [isStone, this]
    · have l2 : ds.length = 2 := by
        have e' : (!decide ((ds.length : Int) = 2)) = false := e
        simp only [Bool.not_eq_false', decide_eq_true_eq] at e'
        omega
      have key : EvF E (tLc (iTup E.K (tVar 0)) (gName 1) tYes (tAndV (tCall (sp_is_whole E.K) [] E0 (tCons (tVar 1) tNil)) (tChain (rI0 fun i j => .bl (decide (i ≤ j))) (rI0 fun i j => .bl (decide (i ≤ j))) (tC (.int 0)) (tVar 1) (tC (.int 999999)))) [1]) (argSl [.d (.tuple ds)] 1) (ds.map fun a => .bool (inRange a)) := by
        refine evF_map ds id (fun a => .bool (inRange a)) (EvI.c (by rw [List.map_id]; exact ei_tup (ev_var rfl))) (by omega) fun a _ => ⟨_, _, by simp, tg_name, ?_⟩
        refine Ev.is (d1 := .bool (isWhole a && inRange a)) (ev_andV (evc_is_whole (ev_var rfl)) fun e => ?_) (by cases a <;> simp [isWhole, inRange])
        match a, e with
        | .int i, _ => exact ev_chain (dx := .int 0) (dy := .int i) (dz := .int 999999) ev_int (ev_var rfl) op_bool (fun _ => ev_int) (fun _ => op_bool)
      have e2 : (ds.map fun a => (PyData.bool (inRange a))) = (ds.map inRange).map PyData.bool := by rw [List.map_map]; rfl
      rw [e2] at key
      refine xs_ret (ev_all key.ev) ?_
      show _ = _
      congr 2
      show (ds.map inRange).all id = (decide (ds.length = 2) && ds.all inRange)
      rw [List.all_map, decide_eq_true l2]
      rfl
  · have hf : isTupD x = false := by simpa using ht
    refine q_when (b := true) ((et_or (b := false) (et_not (et_B (ev_isi_tuple (ev_var rfl)))) fun z => ?_).is (by rw [hf]; rfl)) (fun _ => ?_) fun z => nomatch z
    · rw [hf] at z; cases z
    · refine xs_ret ev_bl ?_
      show _ = _
      have : isStone x = false := by
        cases x
        case tuple ds => cases hf
        all_goals rfl
      rw [this]
end
end PL

/-! R2: cells, drawn stones, counts. -/
namespace PL
open PySem L2
local macro_rules | `(tactic| walk_at "evf") => `(tactic| fail)
local macro_rules | `(tactic| walk_at "rf") => `(tactic| first | (with_reducible_and_instances rfl) | rfl)
local macro_rules | `(tactic| walk_at "sd") => `(tactic| first | decide | omega | assumption | exact Or.inl ⟨by omega, by omega⟩ | exact Or.inr ⟨by omega, by omega⟩ | exact ⟨by omega, by omega⟩ | (simp; done))
local macro_rules | `(tactic| walk_at "ev") => `(tactic| first
  | with_reducible exact ev_int
  | ((with_reducible refine ev_var ?_); walk_at "rf")
  | with_reducible exact ev_str
  | with_reducible exact ev_bl
  | with_reducible exact ev_non
  | walk_at "evf"
  | ((with_reducible refine ev_add ?_ ?_) <;> walk_at "ev")
  | ((with_reducible refine ev_sub ?_ ?_) <;> walk_at "ev")
  | ((with_reducible refine ev_mul ?_ ?_ ?_) <;> walk_at "ev")
  | ((with_reducible refine ev_mod ?_ ?_ ?_) <;> walk_at "ev")
  | ((with_reducible refine ev_fdiv ?_ ?_ ?_) <;> walk_at "ev")
  | ((with_reducible refine ev_lt ?_ ?_) <;> walk_at "ev")
  | ((with_reducible refine ev_le ?_ ?_) <;> walk_at "ev")
  | ((with_reducible refine ev_gt ?_ ?_) <;> walk_at "ev")
  | ((with_reducible refine ev_ge ?_ ?_) <;> walk_at "ev")
  | ((with_reducible refine ev_eqI ?_ ?_) <;> (walk_at "ev"; done))
  | ((with_reducible refine ev_neI ?_ ?_) <;> (walk_at "ev"; done))
  | ((with_reducible refine ev_eqS ?_ ?_) <;> (walk_at "ev"; done))
  | ((with_reducible refine ev_neS ?_ ?_) <;> (walk_at "ev"; done))
  | ((with_reducible refine ev_eqB ?_ ?_) <;> (walk_at "ev"; done))
  | ((with_reducible refine ev_neB ?_ ?_) <;> (walk_at "ev"; done))
  | ((with_reducible refine ev_ixT0 ?_); walk_at "ev"; done)
  | ((with_reducible refine ev_ixT1 ?_); walk_at "ev"; done)
  | ((with_reducible refine ev_st0 ?_); walk_at "ev"; done)
  | ((with_reducible refine ev_st1 ?_); walk_at "ev"; done)
  | ((with_reducible refine ev_lenL ?_); walk_at "ev"; done)
  | ((with_reducible refine ev_lenT ?_); walk_at "ev"; done)
  | ((with_reducible refine ev_lenO ?_); walk_at "rf")
  | ((with_reducible refine ev_lenSc ?_); walk_at "rf")
  | ((with_reducible refine ev_max2 ?_ ?_) <;> walk_at "ev")
  | ((with_reducible refine ev_min2 ?_ ?_) <;> walk_at "ev")
  | ((with_reducible refine ev_abs ?_); walk_at "ev")
  | ((with_reducible refine ev_neg ?_); walk_at "ev")
  | ((with_reducible refine ev_intB ?_); walk_at "ev"; done)
  | ((with_reducible refine et_test ?_); walk_at "ev")
  | ((with_reducible refine et_B ?_); walk_at "ev")
  | ((with_reducible refine et_not ?_); walk_at "ev")
  | ((with_reducible refine ev_notV ?_); walk_at "ev")
  | with_reducible exact ed_nil
  | ((with_reducible refine ed_cons ?_ ?_) <;> walk_at "ev")
  | with_reducible exact ea_nil
  | ((with_reducible refine ea_s ?_ ?_); (walk_at "rf"); walk_at "ev")
  | ((with_reducible refine ea_d ?_ ?_) <;> walk_at "ev")
  | ((with_reducible refine ev_tup ?_ ?_); (walk_at "ev"); (try walk_at "sd"))
  | ((with_reducible refine ev_lst ?_ ?_); (walk_at "ev"); (try walk_at "sd"))
  | ((with_reducible refine evF_lst ?_ ?_); (walk_at "ev"); (try walk_at "sd"))
  | walk_at "sd"
  | skip)
local macro_rules | `(tactic| walk_at "evf") => `(tactic| ((with_reducible refine evc_cell ?_ (by assumption) ?_); (walk_at "rf"); walk_at "ev"))
theorem eqv_nil {ds : List D} : PyData.eqv (.list ds) (.list []) = decide (ds = []) := by
  cases ds <;> simp [PyData.eqv, PyData.eqvAll]
section
variable {E : Ent} {δ δ' : List Sl} {ta tb te tc : TE} {d x y : D} {w : World}
theorem xs_need (x : D) (hx : isStones x = true) : Xs E (t_need_stones E.K w) (argSl [.d x] 1) fun o => o = .nx (argSl [.d x] 1) := by
  cases x
  case list ds =>
    have h0 : (decide (ds.length ≤ 60) && ds.all isStone) = true := hx
    rw [Bool.and_eq_true, decide_eq_true_eq] at h0
    have key : EvF E (tLc (iList E.K (tVar 0)) (gName 1) tYes (tCall (sp_is_stone E.K) [] E0 (tCons (tVar 1) tNil)) [1]) (argSl [.d (.list ds)] 1) (ds.map fun a => .bool (isStone a)) := by
      refine evF_map ds id (fun a => .bool (isStone a)) (EvI.c (by rw [List.map_id]; exact ei_list (ev_var rfl))) (by omega) fun a ha => ⟨_, _, by simp, tg_name, evc_is_stone (ev_var rfl) fun es e => ?_⟩
      have := List.all_eq_true.mp h0.2 a ha
      subst e
      have : (decide (es.length = 2) && es.all inRange) = true := this
      rw [Bool.and_eq_true, decide_eq_true_eq] at this
      omega
    have e2 : (ds.map fun a => (PyData.bool (isStone a))) = (ds.map isStone).map PyData.bool := by rw [List.map_map]; rfl
    rw [e2] at key
    have al : (ds.map isStone).all id = true := by rw [List.all_map]; exact h0.2
    refine xs_if (b := false) ((et_or (et_not (et_B (ev_isi_list (ev_var rfl)))) fun _ => et_or (et_test (ev_gt (ev_lenL (ev_var rfl)) ev_int)) fun _ => et_not (et_B (ev_all key.ev))).is ?_) (fun z => nomatch z) fun _ => xs_next rfl
    rw [al]
    have : ¬ (60 : Int) < (ds.length : Int) := by omega
    simp [this, isListD]
  all_goals cases hx
theorem xs_cell (ns : List Int) (k : Int) (hz : ns.length ≤ 63) : Xs E (t_cell E.K w) (argSl [.s ns, .d (.int k)] 2) fun o => o = .rt (.int (cellF ns k)) := by
  refine q_asg (d := .int (7919 * k + 11)) (by walk_at "ev") ?_
  -- from here on: the cell in slot 2
  have rest : ∀ c : Int, c = cell0 ns k → Xs E (tSeq (tAsg (tOp (rI (fun _ j => 0 < j) fun i j => .int (i % j)) (tVar 2) (tC (.int 2147483647))) (gName 3))
    (tSeq (tAsg (tOp (rI (fun _ j => 0 < j) fun i j => .int (i % j)) (tOp (rI CMul fun i j => .int (i * j)) (tVar 3) (tVar 3)) (tC (.int 2147483629))) (gName 3))
    (tRet (tOp (rI (fun _ j => 0 < j) fun i j => .int (i % j)) (tOp (rI0 fun i j => .int (i + j)) (tOp (rI0 fun i j => .int (i + j)) (tOp (rI CMul fun i j => .int (i * j)) (tVar 3) (tVar 3)) (tOp (rI CMul fun i j => .int (i * j)) (tC (.int 69621)) (tVar 3))) (tVar 1)) (tC (.int 2147483587)))))) [.s ns, .d (.int k), .d (.int c), .no] fun o => o = .rt (.int (cellF ns k)) := fun c hc => by
    subst hc
    have hA := cellA_b ns k
    have hB := cellB_b ns k
    refine q_asg (d := .int (cellA ns k)) (ev_mod (ev_var rfl) ev_int (by decide)) ?_
    refine q_asg (d := .int (cellB ns k)) (ev_mod (ev_mul (ev_var rfl) (ev_var rfl) (.inl ⟨by omega, by omega⟩)) ev_int (by decide)) ?_
    exact xs_ret (ev_mod (ev_add (ev_add (ev_mul (ev_var rfl) (ev_var rfl) (.inl ⟨by omega, by omega⟩)) (ev_mul ev_int (ev_var rfl) (.inl ⟨by decide, by decide⟩))) (ev_var rfl)) ev_int (by decide)) rfl
  refine xs_seq (xs_if (b := decide (ns ≠ [])) ?_ (fun e => ?_) fun e => ?_)
  · refine (et_test (ev_neSc (ns := ns) rfl (ev_lst ed_nil (by simp)) (shp_ints ns) shp_nil)).is ?_
    rw [eqv_nil]
    cases ns <;> simp
  · have hn : ns ≠ [] := by simpa using e
    have hp : 0 < ns.length := List.length_pos_iff.mpr hn
    obtain ⟨z, hz1, hz2⟩ := atI_mod (i := k) hn
    refine q_asg (d := .int (z * 48271)) (ev_mul (ev_ixS rfl (by walk_at "ev") hz1) ev_int (.inr ⟨by decide, by decide⟩)) ?_
    refine xs_asg (d := .int (z * 48271 + 104729 * k + k / (ns.length : Int) * 7919)) ?_ ?_
    · walk_at "ev"
    · refine rest _ ?_
      unfold cell0
      rw [if_neg hn, List.getD_eq_getElem?_getD, hz2]
      rfl
  · have hn : ns = [] := by simpa using e
    refine xs_next (rest _ ?_)
    unfold cell0
    rw [if_pos hn]
theorem xs_stones (ns : List Int) (hz : ns.length ≤ 63) : Xs E (t_stones E.K w) (argSl [.s ns] 5) fun o => o = .rt (stonesD (stonesF ns)) := by
  have hk := cellF_b ns 1
  refine q_asg (d := .int (kindF ns)) (by walk_at "ev") ?_
  refine q_asgF (evF_lst ed_nil (by decide)) ?_
  refine xs_seq (xs_for (ei_range1 (n := max (min (ns.length : Int) 60) (kindF ns / 4 % 16)) ?_ ?_) (fun i δ => ∃ s3 s4 s5, δ = [.s ns, .d (.int (kindF ns)), .ow ((List.range i).map fun k => stD (stoneF ns k)), s3, s4, s5]) ⟨_, _, _, rfl⟩ ?_ ?_)
  · walk_at "ev"
  · have h2 : kindF ns / 4 % 16 < 16 := Int.emod_lt_of_pos _ (by decide)
    have h3 : 0 ≤ kindF ns / 4 % 16 := Int.emod_nonneg _ (by decide)
    omega
  · rintro i x δ' hx ⟨s3, s4, s5, rfl⟩
    have hi : i < manyF ns := by
      have := (List.getElem?_eq_some_iff.mp hx).1
      rwa [intsD_len] at this
    have h60 := many_b (ns := ns)
    have hx' : (intsD 0 (manyF ns))[i]? = some x := hx
    rw [intsD_get hi, Option.some_inj] at hx'
    subst hx'
    refine ⟨_, _, tg_name, ?_⟩
    have e0 : (0 : Int) + (i : Int) = (i : Int) := Int.zero_add _
    rw [e0]
    have hc := cellF_b ns (10 + (i : Int))
    have hc2 := cellF_b ns (100 + (i : Int))
    have hm := most_b ns i
    obtain ⟨j, ej, hj⟩ := most_ix ns i
    have hmost : mostL[j]? = some (mostF ns i) := by
      rw [(mostL_get hj).1]
      unfold mostF
      rw [ej, Int.toNat_natCast]
    refine q_asg (d := .int (cellF ns (10 + (i : Int)))) (by walk_at "ev") ?_
    refine q_asg (d := .int (mostF ns i)) ?_ ?_
    · refine ev_ixL (xs := [.int 3, .int 6, .int 14, .int 1000000]) (i := (kindF ns % 4 + cellF ns (10 + (i : Int)) / 1000 % 9 / 8) % 4) (by walk_at "ev") ?_ ?_
      · walk_at "ev"
      · rw [ej]
        refine atI_nat ?_
        have := congrArg (Option.map PyData.int) hmost
        rw [← List.getElem?_map] at this
        exact this
    refine q_drop (evM_append (d := stD (stoneA ns i, stoneB ns i)) rfl ?_ ?_) ?_
    · refine ev_tup (ed_cons (ev_mod (ev_fdiv (ev_var rfl) ev_int ⟨by decide, by decide⟩) (ev_var rfl) (by omega)) (ed_cons (ev_mod (ev_fdiv (by walk_at "ev") ev_int ⟨by decide, by decide⟩) (ev_var rfl) (by omega)) ed_nil)) (by show 2 ≤ 100000; decide)
    · simp; omega
    have snoc : ((List.range (i + 1)).map fun k => stD (stoneF ns k)) = ((List.range i).map fun k => stD (stoneF ns k)) ++ [stD (stoneF ns i)] := by rw [List.range_succ, List.map_append]; rfl
    have len : ((List.range i).map fun k => stD (stoneF ns k)).length = i := by simp
    refine xs_if (b := decide (cellF ns (10 + (i : Int)) % 23 = 1)) (by walk_at "ev") (fun e => ?_) fun e => ?_
    · have e : cellF ns (10 + (i : Int)) % 23 = 1 := of_decide_eq_true e
      have get : atI (((List.range i).map fun k => stD (stoneF ns k)) ++ [stD (stoneA ns i, stoneB ns i)]) (i : Int) = some (stD (stoneA ns i, stoneB ns i)) := atI_nat (by rw [List.getElem?_append_right (by rw [len]; exact Nat.le_refl _), len]; simp)
      refine xs_setO (n := 2) (j := i) (i := (i : Int)) (d := stD (stoneA ns i, stoneA ns i)) rfl ?_ (ev_var rfl) rfl (by simp) ?_
      · exact ev_tup (ed_cons (ev_st0 (s := (stoneA ns i, stoneB ns i)) (ev_ixO rfl (ev_var rfl) get)) (ed_cons (ev_st0 (s := (stoneA ns i, stoneB ns i)) (ev_ixO rfl (ev_var rfl) get)) ed_nil)) (by show 2 ≤ 100000; decide)
      · have st : stoneF ns i = (stoneA ns i, stoneA ns i) := if_pos e
        have sett : (((List.range i).map fun k => stD (stoneF ns k)) ++ [stD (stoneA ns i, stoneB ns i)]).set i (stD (stoneA ns i, stoneA ns i)) = ((List.range i).map fun k => stD (stoneF ns k)) ++ [stD (stoneA ns i, stoneA ns i)] := by
          rw [List.set_append_right _ _ (by rw [len]; exact Nat.le_refl _), len]
          simp
        show ∃ s3 s4 s5, _ = _
        rw [snoc, st, ← sett]
        exact ⟨_, _, _, rfl⟩
    · have e : ¬ cellF ns (10 + (i : Int)) % 23 = 1 := of_decide_eq_false e
      have st : stoneF ns i = (stoneA ns i, stoneB ns i) := if_neg e
      refine xs_next ?_
      show ∃ s3 s4 s5, _ = _
      rw [snoc, st]
      exact ⟨_, _, _, rfl⟩
  · rintro δ' ⟨s3, s4, s5, rfl⟩
    rw [intsD_len]
    refine xs_share (i := 2) rfl (xs_ret (ev_var rfl) ?_)
    show _ = _
    congr 1
    unfold stonesD stonesF
    rw [List.map_map]
    rfl
/-! ### counts -/
theorem stD_get {ss : List (Int × Int)} {i : Int} (h : 0 ≤ i ∧ i < (ss.length : Int)) : atI (ss.map stD) i = some (stD (ss.getD i.toNat (0, 0))) := by
  have e : ((i.toNat : Nat) : Int) = i := Int.toNat_of_nonneg h.1
  have lt : i.toNat < ss.length := by omega
  have := atI_nat (xs := ss.map stD) (j := i.toNat) (v := stD (ss.getD i.toNat (0, 0))) (by
    rw [List.getElem?_map, List.getD_eq_getElem?_getD, List.getElem?_eq_getElem lt]; rfl)
  rwa [e] at this
theorem xs_counted (ss : List (Int × Int)) (g : List Int) (hs : OkS ss) (hg : OkG ss g) : Xs E (t_counted E.K w) (argSl [.d (stonesD ss), .d (intsL g)] 3) fun o => o = .rk (tallyK (endsF ss g)) := by
  refine q_asgK evK_new ?_
  refine xs_seq (xs_for (ei_list (ev_var rfl)) (fun i δ => ∃ s3 s4, δ = [.d (stonesD ss), .d (intsL g), .od (tallyK (endsF ss (g.take i))), s3, s4]) ⟨_, _, rfl⟩ ?_ ?_)
  · rintro i x δ' hx ⟨s3, s4, rfl⟩
    obtain ⟨n, hn, rfl⟩ : ∃ n, g[i]? = some n ∧ x = .int n := by
      rw [List.getElem?_map] at hx
      cases q : g[i]? with
      | none => rw [q] at hx; cases hx
      | some n => rw [q] at hx; exact ⟨n, rfl, (Option.some.inj hx).symm⟩
    have hi : i < g.length := (List.getElem?_eq_some_iff.mp hn).1
    have hm := hg.mem n (List.mem_of_getElem? hn)
    have tk : g.take (i + 1) = g.take i ++ [n] := by rw [List.take_succ, hn]; rfl
    refine ⟨_, _, tg_name, ?_⟩
    have el : ∀ (l : List Int), l.length ≤ 2 * i + 1 → ∀ (m : Int) (s3 s4 : Sl), Xs E (sDPut (tVar 2) (tVar 4) (tOp (rI0 fun i j => .int (i + j)) (tDGet2 (tVar 2) (tVar 4) (tC (.int 0))) (tC (.int 1)))) [.d (stonesD ss), .d (intsL g), .od (tallyK l), s3, .d (.int m)] fun o => o = .nx [.d (stonesD ss), .d (intsL g), .od (tallyK (l ++ [m])), s3, .d (.int m)] := fun l hl m s3 s4 => by
      refine xs_dput (n := 2) (k := .inl m) (d := .int ((l.count m : Nat) + 1)) rfl (ev_var rfl) ?_ ?_ ?_
      · refine ev_add (i := (l.count m : Nat)) (j := 1) ?_ ev_int
        refine Ev.is (ev_dget2 (n := 2) (k := .inl m) rfl (ev_var rfl) ev_int) (tally_get l m)
      · have := dd_len l
        have h60 := hg.len
        simp only [tallyK, List.length_map]
        omega
      · rw [tally_put]
        rfl
    have elen : (endsF ss (g.take i)).length = 2 * i := by
      rw [endsF_len, List.length_take]; omega
    refine xs_for (ei_tup (ev_ixL (ev_var rfl) (ev_var rfl) (stD_get hm))) (fun j δ => ∃ s4, δ = [.d (stonesD ss), .d (intsL g), .od (tallyK (endsF ss (g.take i) ++ [(ss.getD n.toNat (0, 0)).1, (ss.getD n.toNat (0, 0)).2].take j)), .d (.int n), s4]) ⟨s4, by rw [List.take_zero, List.append_nil]; rfl⟩ ?_ ?_
    · rintro j x δ' hx ⟨s4, rfl⟩
      match j, hx with
      | 0, hx =>
        cases hx
        refine ⟨_, _, tg_name, (el (endsF ss (g.take i) ++ []) (by simp [elen]) _ _ s4).imp ?_⟩
        rintro o rfl
        exact ⟨.d (.int (ss.getD n.toNat (0, 0)).1), by rw [List.append_nil]; rfl⟩
      | 1, hx =>
        cases hx
        refine ⟨_, _, tg_name, (el (endsF ss (g.take i) ++ [(ss.getD n.toNat (0, 0)).1]) (by simp [elen]) _ _ s4).imp ?_⟩
        rintro o rfl
        exact ⟨.d (.int (ss.getD n.toNat (0, 0)).2), by rw [List.append_assoc]; rfl⟩
      | j + 2, hx => simp at hx
    · rintro δ' ⟨s4, rfl⟩
      refine ⟨.d (.int n), s4, ?_⟩
      rw [tk, endsF_snoc]
      rfl
  · rintro δ' ⟨s3, s4, rfl⟩
    refine xs_retOd rfl ?_
    show _ = _
    rw [List.length_map, List.take_length]
end
end PL

/-! R3: odd ends, the law's counting, alike. -/
namespace PL
open PySem L2
local macro_rules | `(tactic| walk_at "evf") => `(tactic| fail)
local macro_rules | `(tactic| walk_at "rf") => `(tactic| first | (with_reducible_and_instances rfl) | rfl)
local macro_rules | `(tactic| walk_at "sd") => `(tactic| first | decide | omega | assumption | exact Or.inl ⟨by omega, by omega⟩ | exact Or.inr ⟨by omega, by omega⟩ | exact ⟨by omega, by omega⟩ | (simp; done))
local macro_rules | `(tactic| walk_at "ev") => `(tactic| first
  | with_reducible exact ev_int
  | ((with_reducible refine ev_var ?_); walk_at "rf")
  | with_reducible exact ev_str
  | with_reducible exact ev_bl
  | with_reducible exact ev_non
  | walk_at "evf"
  | ((with_reducible refine ev_add ?_ ?_) <;> walk_at "ev")
  | ((with_reducible refine ev_sub ?_ ?_) <;> walk_at "ev")
  | ((with_reducible refine ev_mul ?_ ?_ ?_) <;> walk_at "ev")
  | ((with_reducible refine ev_mod ?_ ?_ ?_) <;> walk_at "ev")
  | ((with_reducible refine ev_fdiv ?_ ?_ ?_) <;> walk_at "ev")
  | ((with_reducible refine ev_lt ?_ ?_) <;> walk_at "ev")
  | ((with_reducible refine ev_le ?_ ?_) <;> walk_at "ev")
  | ((with_reducible refine ev_gt ?_ ?_) <;> walk_at "ev")
  | ((with_reducible refine ev_ge ?_ ?_) <;> walk_at "ev")
  | ((with_reducible refine ev_eqI ?_ ?_) <;> (walk_at "ev"; done))
  | ((with_reducible refine ev_neI ?_ ?_) <;> (walk_at "ev"; done))
  | ((with_reducible refine ev_eqS ?_ ?_) <;> (walk_at "ev"; done))
  | ((with_reducible refine ev_neS ?_ ?_) <;> (walk_at "ev"; done))
  | ((with_reducible refine ev_eqB ?_ ?_) <;> (walk_at "ev"; done))
  | ((with_reducible refine ev_neB ?_ ?_) <;> (walk_at "ev"; done))
  | ((with_reducible refine ev_ixT0 ?_); walk_at "ev"; done)
  | ((with_reducible refine ev_ixT1 ?_); walk_at "ev"; done)
  | ((with_reducible refine ev_st0 ?_); walk_at "ev"; done)
  | ((with_reducible refine ev_st1 ?_); walk_at "ev"; done)
  | ((with_reducible refine ev_lenL ?_); walk_at "ev"; done)
  | ((with_reducible refine ev_lenT ?_); walk_at "ev"; done)
  | ((with_reducible refine ev_lenO ?_); walk_at "rf")
  | ((with_reducible refine ev_lenSc ?_); walk_at "rf")
  | ((with_reducible refine ev_max2 ?_ ?_) <;> walk_at "ev")
  | ((with_reducible refine ev_min2 ?_ ?_) <;> walk_at "ev")
  | ((with_reducible refine ev_abs ?_); walk_at "ev")
  | ((with_reducible refine ev_neg ?_); walk_at "ev")
  | ((with_reducible refine ev_intB ?_); walk_at "ev"; done)
  | ((with_reducible refine et_test ?_); walk_at "ev")
  | ((with_reducible refine et_B ?_); walk_at "ev")
  | ((with_reducible refine et_not ?_); walk_at "ev")
  | ((with_reducible refine ev_notV ?_); walk_at "ev")
  | with_reducible exact ed_nil
  | ((with_reducible refine ed_cons ?_ ?_) <;> walk_at "ev")
  | with_reducible exact ea_nil
  | ((with_reducible refine ea_s ?_ ?_); (walk_at "rf"); walk_at "ev")
  | ((with_reducible refine ea_d ?_ ?_) <;> walk_at "ev")
  | ((with_reducible refine ev_tup ?_ ?_); (walk_at "ev"); (try walk_at "sd"))
  | ((with_reducible refine ev_lst ?_ ?_); (walk_at "ev"); (try walk_at "sd"))
  | ((with_reducible refine evF_lst ?_ ?_); (walk_at "ev"); (try walk_at "sd"))
  | walk_at "sd"
  | skip)
def t_alike (K : PySem.W.Frag) (w : World) (rec : Sp) : TS :=
    (tSeq (tIfS (tB (tCB (rIsiT K) (tCons (tVar 1) (tCons (tTup (tCons (tC (.ty "tuple")) (tCons (tC (.ty "list")) tNil))) tNil))))
    (tSeq (tIfS (tOr (tTest (tOp (rNe) (tCB (rIsi K) (tCons (tVar 0) (tCons (tC (.ty "tuple")) tNil))) (tCB (rIsi K) (tCons (tVar 1) (tCons (tC (.ty "tuple")) tNil))))) (tTest (tOp (rNe) (tCB (rIsi K) (tCons (tVar 0) (tCons (tC (.ty "list")) tNil))) (tCB (rIsi K) (tCons (tVar 1) (tCons (tC (.ty "list")) tNil))))))
    (tRet (tC (.bl false)))
    tNext)
    (tRet (tAndV (tOp (rEq) (tCB (cLen K) (tCons (tVar 0) tNil)) (tCB (cLen K) (tCons (tVar 1) tNil))) (tCB (rAll K) (tCons (tLc (iRng1 (tCons (tCB (cLen K) (tCons (tVar 1) tNil)) tNil)) (gName 2) tYes (tCall rec [] E0 (tCons (tOp (rIx K) (tVar 0) (tVar 2)) (tCons (tOp (rIx K) (tVar 1) (tVar 2)) tNil))) [2]) tNil)))))
    tNext)
    (tRet (tAndV (tOp (rEq) (tCB (rIsi K) (tCons (tVar 0) (tCons (tC (.ty "bool")) tNil))) (tCB (rIsi K) (tCons (tVar 1) (tCons (tC (.ty "bool")) tNil)))) (tOp (rEqD K) (tVar 0) (tVar 1)))))



section
variable {E : Ent} {δ δ' : List Sl} {ta tb te tc : TE} {d x y : D} {w : World}
theorem xs_odd_ends (ss : List (Int × Int)) (g : List Int) (hs : OkS ss) (hg : OkG ss g) : Xs E (t_odd_ends E.K w) (argSl [.d (stonesD ss), .d (intsL g)] 2) fun o => o = .rl ((oddF ss g).map .int) := by
  refine q_drop (evc_need (ev_var rfl) (isStones_of hs)).m ?_
  refine q_asgK (evk_counted (ev_var rfl) (ev_var rfl) hs hg) ?_
  have key : EvF E (tLockE (tLc (iKeys (tVar 2)) (gName 3) (tTest (tOp (rEq) (tOp (rI (fun _ j => 0 < j) fun i j => .int (i % j)) (tDGet (tVar 2) (tVar 3)) (tC (.int 2))) (tC (.int 1)))) (tVar 3) [3])) [.d (stonesD ss), .d (intsL g), .od (tallyK (endsF ss g)), .no] (((dd (endsF ss g)).filter (oddB (endsF ss g))).map .int) := by
    refine evF_lock (i := 2) rfl ?_
    refine evF_lc (dd (endsF ss g)) .int (oddB (endsF ss g)) .int (?_ : EvIc E _ _ _) ?_ fun n hn => ⟨[3], _, by simp, tg_name, ?_, fun _ => ev_var rfl⟩
    · have h := ei_keys (E := E) (i := 2) (kvs := tallyK (endsF ss g)) (δ := [.d (stonesD ss), .d (intsL g), fz (tallyK (endsF ss g)), .no]) rfl
      have e : ((tallyK (endsF ss g)).map fun kv => kD kv.1) = (dd (endsF ss g)).map .int := by
        unfold tallyK
        rw [List.map_map]
        rfl
      rw [e] at h
      exact h
    · have h1 := dd_len (endsF ss g)
      have h2 := endsF_len ss g
      have h3 := hg.len
      omega
    · refine et_test (ev_eqI (ev_mod (i := ((endsF ss g).count n : Nat)) (ev_dgetFz (n := 2) (k := .inl n) rfl (ev_var rfl) ?_) ev_int (by decide)) ev_int)
      unfold tallyK
      rw [valD_map (fun k => .int ((endsF ss g).count k : Nat)), if_pos hn]
  exact xs_retF (evF_sorted key.ev fun ms p r => isort_is p r) rfl
theorem listSt {s : Int × Int} (h : Ev E ta δ (stD s)) : EvF E (tCB (cList E.K) (tCons ta tNil)) δ [.int s.1, .int s.2] := evF_listT h
theorem xs_law_odd (ss : List (Int × Int)) (g : List Int) (hs : OkS ss) (hg : OkG ss g) : Xs E (t_law_odd E.K w) (argSl [.d (stonesD ss), .d (intsL g)] 3) fun o => o = .rl ((oddF ss g).map .int) := by
  refine q_asg (ev_lst ed_nil (by decide)) ?_
  refine xs_seq (xs_for (ei_list (ev_var rfl)) (fun i δ => ∃ s3, δ = [.d (stonesD ss), .d (intsL g), .d (intsL (endsF ss (g.take i))), s3, .no]) ⟨_, rfl⟩ ?_ ?_)
  · rintro i x δ' hx ⟨s3, rfl⟩
    obtain ⟨n, hn, rfl⟩ : ∃ n, g[i]? = some n ∧ x = .int n := by
      rw [List.getElem?_map] at hx
      cases q : g[i]? with
      | none => rw [q] at hx; cases hx
      | some n => rw [q] at hx; exact ⟨n, rfl, (Option.some.inj hx).symm⟩
    have hi : i < g.length := (List.getElem?_eq_some_iff.mp hn).1
    have hm := hg.mem n (List.mem_of_getElem? hn)
    have h60 := hg.len
    have tk : g.take (i + 1) = g.take i ++ [n] := by rw [List.take_succ, hn]; rfl
    refine ⟨_, _, tg_name, xs_asg (EvF.ev (evF_cat (xs := (endsF ss (g.take i)).map .int) (ev_var rfl) (EvF.ev (listSt (ev_ixL (ev_var rfl) (ev_var rfl) (stD_get hm)))) ?_)) ?_⟩
    · simp only [List.length_map, endsF_len, List.length_take, List.length_cons, List.length_nil]
      omega
    · show ∃ s3, _ = _
      rw [tk, endsF_snoc]
      unfold intsL
      rw [List.map_append]
      exact ⟨_, rfl⟩
  · rintro δ' ⟨s3, rfl⟩
    rw [List.length_map, List.take_length]
    have h1 := endsF_len ss g
    have h3 := hg.len
    have key : EvF E (tLc (iList E.K (tVar 2)) (gName 4) (tTest (tOp (rEq) (tOp (rI (fun _ j => 0 < j) fun i j => .int (i % j)) (tBM E.K "list" (rCntI E.K) (tVar 2) (tCons (tVar 4) tNil)) (tC (.int 2))) (tC (.int 1)))) (tVar 4) [4]) [.d (stonesD ss), .d (intsL g), .d (intsL (endsF ss g)), s3, .no] (((endsF ss g).filter (oddB (endsF ss g))).map .int) :=
      evF_lc (endsF ss g) .int (oddB (endsF ss g)) .int (EvI.c (ei_list (ev_var rfl))) (by omega) fun n hn => ⟨[4], _, by simp, tg_name, et_test (ev_eqI (ev_mod (ev_count (ev_var rfl) (ev_var rfl)) ev_int (by decide)) ev_int), fun _ => ev_var rfl⟩
    refine xs_retF (evF_sortSet key.ev ?_ fun ms h k => ?_) rfl
    · have := List.length_filter_le (oddB (endsF ss g)) (endsF ss g)
      omega
    · refine strict_is ((dd_nd _).filter _) h fun n => ?_
      rw [k n, List.mem_filter, List.mem_filter, dd_mem]

/-! ### alike -/
theorem ev_ixAL {xs : List D} {i : Int} (ha : Ev E ta δ (.list xs)) (hb : Ev E tb δ (.int i)) (h : atI xs i = some d) : Ev E (tOp (rIx E.K) ta tb) δ d :=
  ev_op ha hb fun G H x y Q i' _ ⟨a, vs, e1, e2, r⟩ b k => by
    obtain ⟨v, q1, q2⟩ := r.atI h
    exact .inl ⟨a, vs, i, v, e1, b, sqL_of i' e2, q1, k v G H (Gr.refl i') q2⟩
theorem ev_ixAT {xs : List D} {i : Int} (ha : Ev E ta δ (.tuple xs)) (hb : Ev E tb δ (.int i)) (h : atI xs i = some d) : Ev E (tOp (rIx E.K) ta tb) δ d :=
  ev_op ha hb fun G H x y Q i' _ ⟨a, vs, e1, e2, r⟩ b k => by
    obtain ⟨v, q1, q2⟩ := r.atI h
    exact .inr (.inl ⟨a, vs, i, v, e1, b, sqT_of i' e2, q1, k v G H (Gr.refl i') q2⟩)
end
def okA : Nat → D → Bool
  | _, .none => true
  | _, .bool _ => true
  | _, .int _ => true
  | _, .str s => PyData.strOk s
  | n + 1, .list xs => decide (xs.length ≤ 1000) && xs.all (okA n)
  | n + 1, .tuple xs => decide (xs.length ≤ 1000) && xs.all (okA n)
  | _, _ => false
def R_alike (n : Nat) (as : List Sl) (d : D) : Prop := ∃ x, as = [.d x, .d x] ∧ okA n x = true ∧ d = .bool true
def spA (K : PySem.W.Frag) : Nat → Sp
  | 0 => fun _ _ _ _ => False
  | n + 1 => spR K (R_alike n)
section
variable {E : Ent} {δ δ' : List Sl} {ta tb te tc : TE} {d x y : D} {w : World} {XE : XK}
theorem xs_alike (n : Nat) (x : D) (h : okA n x = true) : Xs E (t_alike E.K w (spA E.K n)) (argSl [.d x, .d x] 1) fun o => o = .rt (.bool true) := by
  have scalar : SeqAt.shaped x = true → isTupD x = false → isListD x = false → Xs E (t_alike E.K w (spA E.K n)) (argSl [.d x, .d x] 1) fun o => o = .rt (.bool true) := fun sh h1 h2 => by
    refine q_when (b := false) ((et_B (ev_isi_tl (ev_var rfl))).is (by rw [h1, h2]; rfl)) (fun z => nomatch z) fun _ => ?_
    refine xs_ret (ev_andV (ev_eqB (ev_isi_bool (ev_var rfl)) (ev_isi_bool (ev_var rfl))) fun _ => ev_eqD (ev_var rfl) (ev_var rfl) sh sh) ?_
    show _ = _
    rw [SeqAt.eqv_refl x (shp_lay sh)]
    simp
  have seq : ∀ xs : List D, xs.length ≤ 1000 → (∀ m, n = m + 1 → ∀ z ∈ xs, okA m z = true) → (∃ m, n = m + 1) → (x = .list xs ∨ x = .tuple xs) → Xs E (t_alike E.K w (spA E.K n)) (argSl [.d x, .d x] 1) fun o => o = .rt (.bool true) := fun xs hz hm hn hx => by
    obtain ⟨m, rfl⟩ := hn
    have hm := hm m rfl
    have ht : (isTupD x || isListD x) = true := by rcases hx with rfl | rfl <;> rfl
    have lenE : ∀ δ : List Sl, ∀ i, δ[i]? = some (.d x) → Ev E (tCB (cLen E.K) (tCons (tVar i) tNil)) δ (.int (xs.length : Int)) := fun δ i h => by
      rcases hx with rfl | rfl
      · exact ev_lenL (ev_var h)
      · exact ev_lenT (ev_var h)
    have ixE : ∀ (δ : List Sl) i j, ∀ (k : Nat) z, δ[i]? = some (.d x) → δ[j]? = some (.d (.int (k : Int))) → xs[k]? = some z → Ev E (tOp (rIx E.K) (tVar i) (tVar j)) δ z := fun δ i j k z h h2 h3 => by
      rcases hx with rfl | rfl
      · exact ev_ixAL (ev_var h) (ev_var h2) (atI_nat h3)
      · exact ev_ixAT (ev_var h) (ev_var h2) (atI_nat h3)
    refine q_when (b := true) ((et_B (ev_isi_tl (ev_var rfl))).is ht) (fun _ => ?_) fun z => nomatch z
    refine q_when (b := false) ((et_or (et_test (ev_neB (ev_isi_tuple (ev_var rfl)) (ev_isi_tuple (ev_var rfl)))) fun _ => et_test (ev_neB (ev_isi_list (ev_var rfl)) (ev_isi_list (ev_var rfl)))).is (by simp)) (fun z => nomatch z) fun _ => ?_
    have key : EvF E (tLc (iRng1 (tCons (tCB (cLen E.K) (tCons (tVar 1) tNil)) tNil)) (gName 2) tYes (tCall (spA E.K (m + 1)) [] E0 (tCons (tOp (rIx E.K) (tVar 0) (tVar 2)) (tCons (tOp (rIx E.K) (tVar 1) (tVar 2)) tNil))) [2]) (argSl [.d x, .d x] 1) ((List.range xs.length).map fun _ => .bool true) := by
      have e1 : intsD 0 ((xs.length : Int)).toNat = (List.range xs.length).map fun (k : Nat) => .int (k : Int) := by
        unfold intsD
        rw [Int.toNat_natCast]
        exact List.map_congr_left fun k _ => by rw [Int.zero_add]
      have hi : EvI E (iRng1 (tCons (tCB (cLen E.K) (tCons (tVar 1) tNil)) tNil)) (argSl [.d x, .d x] 1) ((List.range xs.length).map fun (k : Nat) => .int (k : Int)) := by
        rw [← e1]
        exact ei_range1 (ed_cons (lenE _ 1 rfl) ed_nil) (by omega)
      refine evF_map (List.range xs.length) (fun (k : Nat) => .int (k : Int)) (fun _ => .bool true) hi.c (by rw [List.length_range]; omega) fun k hk => ⟨[2], _, by simp, tg_name, ?_⟩
      have lt : k < xs.length := List.mem_range.mp hk
      refine ev_call (R := R_alike m) (ea_d (ixE _ 0 2 k xs[k] rfl rfl (List.getElem?_eq_getElem lt)) (ea_d (ixE _ 1 2 k xs[k] rfl rfl (List.getElem?_eq_getElem lt)) ea_nil)) ⟨xs[k], rfl, hm _ (List.getElem_mem lt), rfl⟩
    have e2 : ((List.range xs.length).map fun _ => (PyData.bool true)) = ((List.range xs.length).map fun _ => true).map PyData.bool := by rw [List.map_map]; rfl
    rw [e2] at key
    refine xs_ret (ev_andV (ev_eqI (lenE _ 0 rfl) (lenE _ 1 rfl)) fun _ => ev_all key.ev) ?_
    have al : ((List.range xs.length).map fun _ => true).all id = true := by simp
    show _ = _
    rw [al]
    simp
  cases x with
  | none => exact scalar (by decide) rfl rfl
  | bool b => exact scalar (shp_of (by simp [PyData.canLay0]) (by simp [PyData.depth])) rfl rfl
  | int b => exact scalar (shp_of (by simp [PyData.canLay0]) (by simp [PyData.depth])) rfl rfl
  | str b =>
    have hb : PyData.strOk b = true := by cases n <;> exact h
    exact scalar (shp_of (by simp [PyData.canLay0, hb]) (by simp [PyData.depth])) rfl rfl
  | list xs =>
    cases n with
    | zero => cases h
    | succ m =>
      have h' : (decide (xs.length ≤ 1000) && xs.all (okA m)) = true := h
      rw [Bool.and_eq_true, decide_eq_true_eq] at h'
      exact seq xs h'.1 (fun k e z hz => by cases e; exact List.all_eq_true.mp h'.2 z hz) ⟨m, rfl⟩ (.inl rfl)
  | tuple xs =>
    cases n with
    | zero => cases h
    | succ m =>
      have h' : (decide (xs.length ≤ 1000) && xs.all (okA m)) = true := h
      rw [Bool.and_eq_true, decide_eq_true_eq] at h'
      exact seq xs h'.1 (fun k e z hz => by cases e; exact List.all_eq_true.mp h'.2 z hz) ⟨m, rfl⟩ (.inr rfl)
  | dict kvs => cases n <;> cases h
theorem evc_alike {n : Nat} (ha : Ev E ta δ x) (hb : Ev E tb δ x) (h : okA n x = true) : Ev E (tCall (spA E.K (n + 1)) [] XE (tCons ta (tCons tb tNil))) δ (.bool true) := ev_call (R := R_alike n) (ea_d ha (ea_d hb ea_nil)) ⟨x, rfl, h, rfl⟩
end
end PL

/-! PText: texts: str(i), +, join, split, one sign in a text, int(text). -/
namespace PL
open PySem PySem.Spec PyProof.Rows L2 TL
def oJoin (K : PySem.W.Frag) : V → List V → Hp → VK → Prop := fun x xs H Q => ∃ a p, ∃ ys : List Str, x = .str a ∧ xs = [.ref p] ∧ (SqL K H p (ys.map V.str) ∨ SqT K H p (ys.map V.str)) ∧
      (ys.map (·.length)).sum + ys.length * a.length ≤ 16777216 ∧ Q (.str (Txt.join a ys)) H
def oSplit : V → List V → Hp → VK → Prop := fun x xs H Q => ∃ a b, x = .str a ∧ xs = [.str b] ∧ (b.length == 0) = false ∧ a.length + 2 ≤ sizeLine ∧ rNewStrs (Txt.split a b) H Q
def oInSg : R2 := fun x y H Q => ∃ (c : Nat) (z : Str), x = .str ⟨#[c]⟩ ∧ y = .str z ∧ Q (.bl (decide (c ∈ z.cps.toList))) H
def oNotInSg : R2 := fun x y H Q => ∃ (c : Nat) (z : Str), x = .str ⟨#[c]⟩ ∧ y = .str z ∧ Q (.bl (!decide (c ∈ z.cps.toList))) H
def cIntS : List V → Hp → VK → Prop := fun xs H Q => ∃ a n, xs = [.str a] ∧ PySem.intText? a = some n ∧ a.length ≤ 640 ∧ Q (.int n) H
section
variable {E : Ent} {δ δ' : List Sl} {ta tb te tc : TE} {d x y : D}
theorem ev_strI {i : Int} (ha : Ev E ta δ (.int i)) (hz : i.natAbs.log2 < 1920) : Ev E (tCB cStr (tCons ta tNil)) δ (.str (Str.ofString (toString i))) :=
  ev_cb (ed_cons ha ed_nil) (ca_one (w := .str (Str.ofString (toString i))) rfl (fun _ => rfl) fun G H v Q _ r q => by
    have r : v = .int i := r
    subst r
    exact ⟨i, rfl, hz, q⟩)
theorem ev_catX {a b : Str} (ha : Ev E ta δ (.str a)) (hb : Ev E tb δ (.str b)) (hz : a.length + b.length ≤ 1000000) : Ev E (tOp oCatS ta tb) δ (.str (a ++ b)) :=
  ev_op ha hb (op_val (v := .str (a ++ b)) (fun _ _ x y Q _ _ r1 r2 q => ⟨a, b, r1, r2, Nat.le_trans hz (by decide), q⟩) fun _ => rfl)
theorem ev_join {a : Str} {ys : List Str} (ha : Ev E ta δ (.str a)) (hb : Ev E tb δ (.list (ys.map .str))) (hz : (ys.map (·.length)).sum + ys.length * a.length ≤ 1000000) : Ev E (tM1 (oJoin E.K) ta tb) δ (.str (Txt.join a ys)) := fun σ G H Q s k =>
  ha σ G H _ s fun v G1 H1 g1 r1 => by
    have r1 : v = .str a := r1
    subst r1
    refine ⟨⟨a, rfl⟩, hb σ G1 H1 _ (s.grow g1) fun u G2 H2 g2 r2 => ?_⟩
    obtain ⟨p, vs, e, h1, h2⟩ := r2
    subst e
    have e := RpA.of_strs h2
    subst e
    exact ⟨a, p, ys, rfl, rfl, .inl (sqL_of g2.i h1), Nat.le_trans hz (by decide), k _ G2 H2 (g1.trans g2) rfl⟩
theorem evF_split {a b : Str} (ha : Ev E ta δ (.str a)) (hb : Ev E tb δ (.str b)) (h0 : (b.length == 0) = false) (hz : a.length ≤ 1000000) : EvF E (tM1 oSplit ta tb) δ ((Txt.split a b).map .str) := fun σ G H Q s k =>
  ha σ G H _ s fun v G1 H1 g1 r1 => by
    have r1 : v = .str a := r1
    subst r1
    refine ⟨⟨a, rfl⟩, hb σ G1 H1 _ (s.grow g1) fun u G2 H2 g2 r2 => ?_⟩
    have r2 : u = .str b := r2
    subst r2
    have g := g1.trans g2
    refine ⟨a, b, rfl, rfl, h0, Nat.le_trans (Nat.add_le_add_right hz 2) (by decide), fun p hp => ?_⟩
    exact k p _ G2 _ (g.trans (Gr.side g2.i (same_new hp))) (g.h.free hp) (g2.i.free hp) upd_same (RpA.strs _)
theorem ev_inSg {c : Nat} {z : Str} (ha : Ev E ta δ (.str ⟨#[c]⟩)) (hb : Ev E tb δ (.str z)) : Ev E (tOp oInSg ta tb) δ (.bool (decide (c ∈ z.cps.toList))) :=
  ev_op ha hb (op_val (v := .bl (decide (c ∈ z.cps.toList))) (fun _ _ x y Q _ _ r1 r2 q => ⟨c, z, r1, r2, q⟩) fun _ => rfl)
theorem ev_ixSg {z : Str} {i : Int} {c : Nat} (ha : Ev E ta δ (.str z)) (hb : Ev E tb δ (.int i)) (hz : z.length ≤ 1000000) (h : atI z.cps.toList i = some c) : Ev E (tOp rIxS ta tb) δ (.str ⟨#[c]⟩) :=
  ev_op ha hb (op_val (v := .str ⟨#[c]⟩) (fun _ _ x y Q _ _ r1 r2 q => ⟨z, i, c, r1, r2, Nat.le_trans hz (by decide), h, q⟩) fun _ => rfl)
theorem ev_intS {z : Str} {n : Int} (ha : Ev E ta δ (.str z)) (h : PySem.intText? z = some n) (hz : z.length ≤ 640) : Ev E (tCB cIntS (tCons ta tNil)) δ (.int n) :=
  ev_cb (ed_cons ha ed_nil) (ca_one (w := .int n) rfl (fun _ => rfl) fun G H v Q _ r q => by
    have r : v = .str z := r
    subst r
    exact ⟨z, n, rfl, h, hz, q⟩)
end
/-! ### plain facts -/
def numS (i : Int) : Str := Str.ofString (toString i)
def dashS : Str := Str.ofString "-"
def blankS : Str := Str.ofString " "
def barS : Str := Str.ofString " | "
def stS (s : Int × Int) : Str := numS s.1 ++ dashS ++ numS s.2
def textF (ss : List (Int × Int)) : Str := Txt.join blankS (ss.map stS)
theorem num_nat {i : Int} (h : okN i) : ∃ n : Nat, i = (n : Int) ∧ n < 10 ^ 6 ∧ tl (numS i) = numL n := by
  obtain ⟨h1, h2⟩ := h
  refine ⟨i.toNat, by omega, by omega, ?_⟩
  have e : i = ((i.toNat : Nat) : Int) := by omega
  rw [e]
  exact tl_num _
theorem num_len {i : Int} (h : okN i) : 1 ≤ (numS i).length ∧ (numS i).length ≤ 6 := by
  obtain ⟨n, _, h1, h2⟩ := num_nat h
  rw [len_tl, h2]
  exact ⟨List.length_pos_iff.mpr (numL_ne n), numL_len (by decide) h1⟩
theorem numL_head : ∀ (n : Nat), 1 ≤ n → (numL n).head? ≠ some 48 := fun n => by
  induction n using Nat.strongRecOn with
  | _ n ih =>
    intro h
    by_cases c : n < 10
    · rw [numL_lt c]
      intro e
      have e : 48 + n = 48 := by simpa using e
      omega
    · rw [numL_step (by omega), List.head?_append]
      have := ih (n / 10) (by omega) (by omega)
      intro e
      cases q : (numL (n / 10)).head? with
      | none => exact numL_ne _ (List.head?_eq_none_iff.mp q)
      | some x =>
        rw [q] at e
        rw [q] at this
        exact this e
theorem tl_dash : tl dashS = [45] := by decide +kernel
theorem tl_blank : tl blankS = [32] := by decide +kernel
theorem tl_bar : tl barS = [32, 124, 32] := by decide +kernel
theorem num_free {i : Int} (h : okN i) {c : Nat} (hc : c < 48 ∨ 57 < c) : c ∉ tl (numS i) := by
  obtain ⟨n, _, _, h2⟩ := num_nat h
  rw [h2]; exact numL_free hc
theorem st_tl (s : Int × Int) : tl (stS s) = tl (numS s.1) ++ [45] ++ tl (numS s.2) := by
  unfold stS
  rw [tl_append, tl_append, tl_dash]
theorem st_free {s : Int × Int} (h1 : okN s.1) (h2 : okN s.2) : 32 ∉ tl (stS s) := by
  rw [st_tl]
  intro h
  rcases List.mem_append.mp h with h | h
  · rcases List.mem_append.mp h with h | h
    · exact num_free h1 (.inl (by decide)) h
    · simp at h
  · exact num_free h2 (.inl (by decide)) h
theorem st_len {s : Int × Int} (h1 : okN s.1) (h2 : okN s.2) : (stS s).length ≤ 13 := by
  have a := num_len h1
  have b := num_len h2
  rw [len_tl] at a b
  rw [len_tl, st_tl]
  simp only [List.length_append, List.length_cons, List.length_nil]
  omega
theorem st_split {s : Int × Int} (h1 : okN s.1) (h2 : okN s.2) : Txt.split (stS s) dashS = [numS s.1, numS s.2] := by
  have e : stS s = Txt.join dashS [numS s.1, numS s.2] := by rw [join_eq]; rfl
  rw [e]
  refine split_join (s := 45) (S := []) tl_dash (by decide +kernel) (by simp) fun p hp => ?_
  rcases List.mem_cons.mp hp with e | e
  · subst e; exact num_free h1 (.inl (by decide))
  · rw [List.mem_singleton] at e
    subst e; exact num_free h2 (.inl (by decide))
theorem text_split {ss : List (Int × Int)} (hs : ∀ s ∈ ss, okN s.1 ∧ okN s.2) (hne : ss ≠ []) : Txt.split (textF ss) blankS = ss.map stS := by
  refine split_join (s := 32) (S := []) tl_blank (by decide +kernel) (fun e => hne (List.map_eq_nil_iff.mp e)) fun p hp => ?_
  obtain ⟨s, h, rfl⟩ := List.mem_map.mp hp
  exact st_free (hs s h).1 (hs s h).2
theorem join_len (a : Str) : ∀ ys : List Str, (Txt.join a ys).length ≤ (ys.map (·.length)).sum + ys.length * a.length := fun ys => by
  rw [join_eq, len_tl, tl_join, len_tl a]
  have e : (ys.map (·.length)).sum = ((ys.map tl).map List.length).sum := by
    rw [List.map_map]
    exact congrArg List.sum (List.map_congr_left fun y _ => len_tl y)
  rw [e]
  have key : ∀ l : List (List Nat), (joinL (tl a) l).length ≤ (l.map List.length).sum + l.length * (tl a).length := by
    intro l
    induction l with
    | nil => exact Nat.zero_le _
    | cons p l ih =>
      cases l with
      | nil => simp [joinL]
      | cons q r =>
        show (p ++ (tl a ++ joinL (tl a) (q :: r))).length ≤ _
        rw [List.length_append, List.length_append, List.map_cons, List.sum_cons, List.length_cons, Nat.succ_mul]
        omega
  have := key (ys.map tl)
  rw [List.length_map] at this
  exact this
theorem text_len {ss : List (Int × Int)} (hs : ∀ s ∈ ss, okN s.1 ∧ okN s.2) : ((ss.map stS).map (·.length)).sum + (ss.map stS).length * blankS.length ≤ 14 * ss.length := by
  have hb : blankS.length = 1 := by decide +kernel
  rw [hb, List.length_map, Nat.mul_one]
  induction ss with
  | nil => exact Nat.le_refl _
  | cons s ss ih =>
    have h1 := ih fun t ht => hs t (List.mem_cons_of_mem _ ht)
    have h2 := st_len (hs s List.mem_cons_self).1 (hs s List.mem_cons_self).2
    simp only [List.map_cons, List.sum_cons, List.length_cons] at h1 ⊢
    omega
theorem text_ne {ss : List (Int × Int)} (hne : ss ≠ []) : textF ss ≠ Str.ofString "" := fun e => by
  have := congrArg tl e
  unfold textF at this
  rw [join_eq, tl_join] at this
  have e0 : tl (Str.ofString "") = [] := by decide +kernel
  rw [e0] at this
  cases ss with
  | nil => exact hne rfl
  | cons s ss =>
    have hs : tl (stS s) ≠ [] := by rw [st_tl]; simp
    cases ss with
    | nil => exact hs (by simpa [joinL] using this)
    | cons t ss =>
      have : tl (stS s) ++ _ = [] := this
      exact hs (List.append_eq_nil_iff.mp this).1
theorem text_nil : textF [] = Str.ofString "" := by
  unfold textF
  rw [join_eq]
  decide +kernel
end PL

/-! PXO: what the top has written of those of the ten classes that stand there. -/
namespace PL
open PySem PySem.Spec PyProof.Rows L2
/-- the classes that stand at the top -/
def xnOn (c : Xn) : Bool := [Xn.StoneError, Xn.NoStones, Xn.NoStone, Xn.NoLaying, Xn.NoText].contains c
/-- what the top has written of the classes -/
structure XT (K : PySem.W.Frag) (mg : Str → Option Value) (xa : XA) : Prop where
  g : ∀ c : Xn, xnOn c = true → mg c.str = some (.ref (xa c))
  k : ∀ c : Xn, xnOn c = true → PySem.W.keepIn K (.ref (xa c)) = true
  ec : ∀ c : Xn, xnOn c = true → ExcC K (xa c)
  ty : ∀ c : Xn, xnOn c = true → PySem.W.typeIn K (.ref (xa c)) = some (.type "type")
  ic : ∀ c : Xn, xnOn c = true → PySem.W.isClsIn K (xa c) = true
  ei : ∀ c : Xn, xnOn c = true → PySem.W.excIn K (xa c) veMro "ValueError.__new__" = true
  sub : ∀ c d : Xn, xnOn c = true → xnOn d = true → PySem.W.subIn K (.ref (xa c)) (.ref (xa d)) = some (Xn.sub c d)
  subV : ∀ c : Xn, xnOn c = true → PySem.W.subIn K (.ref (xa c)) (.type "ValueError") = some true
  subN : ∀ d : Xn, xnOn d = true → PySem.W.subIn K (.type "NoneType") (.ref (xa d)) = some false
section
variable {K : PySem.W.Frag} {mg : Str → Option Value} {xa : XA}
theorem XT.cls (T : XT K mg xa) (t : Value) (d : Xn) (hd : xnOn d = true) : PySem.W.kitCls K t (.ref (xa d)) = PySem.W.subIn K t (.ref (xa d)) := by
  have h1 : (PySem.W.clsIn K (xa d)).isSome = true := T.ic d hd
  have h2 := T.ty d hd
  show (if ((PySem.W.clsIn K (xa d)).isSome && PySem.W.typeIn K (.ref (xa d)) == some (.type "type")) = true then PySem.W.subIn K t (.ref (xa d)) else none) = _
  rw [h1, h2]
  rfl
theorem XT.one (T : XT K mg xa) (c d : Xn) (hc : xnOn c = true := by rfl) (hd : xnOn d = true := by rfl) : PySem.W.kitOne K (.ref (xa c)) (.ref (xa d)) = some (Xn.sub c d) := by
  have key : PySem.W.kitCls K (.ref (xa c)) (.ref (xa d)) = some (Xn.sub c d) := (T.cls _ d hd).trans (T.sub c d hc hd)
  show (if (Value.ref (xa c) == Value.ref (xa d)) = true then some true else PySem.W.kitCls K (.ref (xa c)) (.ref (xa d))) = _
  split
  · rename_i e
    have e : xa c = xa d := by simpa using e
    have h1 := T.sub c d hc hd
    have h2 := T.sub c c hc hc
    rw [← e, h2, Xn.sub_self] at h1
    exact h1
  · exact key
theorem XT.oneN (T : XT K mg xa) (d : Xn) (hd : xnOn d = true := by rfl) : PySem.W.kitOne K (.type "NoneType") (.ref (xa d)) = some false := by
  show (if (Value.type "NoneType" == Value.ref (xa d)) = true then some true else PySem.W.kitCls K (.type "NoneType") (.ref (xa d))) = _
  rw [if_neg (by simp)]
  exact (T.cls _ d hd).trans (T.subN d hd)
theorem XT.oneV (T : XT K mg xa) (c : Xn) (hc : xnOn c = true := by rfl) : PySem.W.kitOne K (.ref (xa c)) (.type "ValueError") = some true := by
  show (if (Value.ref (xa c) == Value.type "ValueError") = true then some true else PySem.W.kitCls K (.ref (xa c)) (.type "ValueError")) = _
  rw [if_neg (by simp)]
  show (if PySem.W.kitMeta "ValueError" = true then PySem.W.subIn K (.ref (xa c)) (.type "ValueError") else none) = _
  rw [if_pos (by decide +kernel)]
  exact T.subV c hc
theorem XT.exm (T : XT K mg xa) (c d : Xn) (hc : xnOn c = true := by rfl) (hd : xnOn d = true := by rfl) : PySem.W.exmOne K (.ref (xa c)) (.ref (xa d)) = some (Xn.sub c d) := PySem.W.exm_ref (T.ec d hd).hs (T.ec d hd).hd (T.ty d hd) (T.sub c d hc hd)
theorem XT.any (T : XT K mg xa) (c : Xn) : ∀ (ds : List Xn) (hc : xnOn c = true := by rfl) (hd : ds.all xnOn = true := by rfl), PySem.W.kitAny K (.ref (xa c)) (ds.map fun d => .ref (xa d)) = some (ds.any (Xn.sub c))
  | [], _, _ => rfl
  | d :: ds, hc, hd => by
    rw [List.all_cons, Bool.and_eq_true] at hd
    exact kitAny_cons (b := Xn.sub c d) (T.one c d hc hd.1) (fun e => by rw [XT.any T c ds hc hd.2, List.any_cons, e]; rfl) (fun e => by rw [List.any_cons, e]; rfl)
theorem XT.anyN (T : XT K mg xa) : ∀ (ds : List Xn) (hd : ds.all xnOn = true := by rfl), PySem.W.kitAny K (.type "NoneType") (ds.map fun d => .ref (xa d)) = some false
  | [], _ => rfl
  | d :: ds, hd => by
    rw [List.all_cons, Bool.and_eq_true] at hd
    exact kitAny_cons (b := false) (T.oneN d hd.1) (fun e => XT.anyN T ds hd.2) (fun e => by cases e)
end
end PL

/-! RN: texts read, or refused: number_of, stone_of, read, of any text. -/
namespace PL
open PySem PySem.Spec PyProof.Rows L2 TL
/-! ### what a text tells -/
def digB (c : Nat) : Bool := decide (48 ≤ c) && decide (c ≤ 57)
def lenB (w : Str) : Bool := decide ((1 : Int) ≤ (w.length : Int)) && decide ((w.length : Int) ≤ 6)
def numB (w : Str) : Bool := lenB w && (tl w).all digB && !(decide ((tl w).head? = some 48) && decide (w ≠ Str.ofString "0"))
def numV (w : Str) : Int := ((NumText.digitsVal (tl w) : Nat) : Int)
def pairV : List Str → Option (Int × Int)
  | [a, b] => if numB a = true ∧ numB b = true then some (numV a, numV b) else none
  | _ => none
def wordV (w : Str) : Option (Int × Int) := pairV (Txt.split w dashS)
def allV : List Str → Option (List (Int × Int))
  | [] => some []
  | w :: ws => match wordV w, allV ws with
    | some s, some ss => some (s :: ss)
    | _, _ => none
def readV (z : Str) : Option (List (Int × Int)) := if z = Str.ofString "" then some [] else if (Txt.split z blankS).length ≤ 60 then allV (Txt.split z blankS) else none
theorem spl_len (s : Nat) : ∀ (L acc : List Nat), ∀ q ∈ spl [s] 0 acc L, q.length ≤ acc.length + L.length
  | [], acc, q, h => by
    rw [spl_nil] at h
    rw [List.mem_singleton.mp h]
    exact Nat.le_add_right _ _
  | c :: r, acc, q, h => by
    by_cases e : pre [s] (c :: r) = true
    · rw [spl_hit e] at h
      rcases List.mem_cons.mp h with h | h
      · rw [h]; exact Nat.le_add_right _ _
      · have := spl_len s r [] q h
        simp only [List.length_cons, List.length_nil] at this ⊢
        omega
    · rw [spl_miss (by simpa using e)] at h
      have := spl_len s r (acc ++ [c]) q h
      simp only [List.length_append, List.length_cons, List.length_nil] at this ⊢
      omega
theorem spl_head (s : Nat) : ∀ (L acc : List Nat), ∃ p r, spl [s] 0 acc L = (acc ++ p) :: r
  | [], acc => ⟨[], [], by rw [spl_nil, List.append_nil]⟩
  | c :: r, acc => by
    by_cases e : pre [s] (c :: r) = true
    · exact ⟨[], _, by rw [spl_hit e, List.append_nil]⟩
    · obtain ⟨p, t, h⟩ := spl_head s r (acc ++ [c])
      exact ⟨c :: p, t, by rw [spl_miss (by simpa using e), h, List.append_assoc]; rfl⟩
theorem split_dash (w : Str) : (Txt.split w dashS).map tl = spl [45] 0 [] (tl w) := by
  have := split_spl w dashS (by rw [tl_dash]; simp) (kind_ok (by decide +kernel))
  rw [tl_dash] at this
  exact this
theorem split_blank (w : Str) : (Txt.split w blankS).map tl = spl [32] 0 [] (tl w) := by
  have := split_spl w blankS (by rw [tl_blank]; simp) (kind_ok (by decide +kernel))
  rw [tl_blank] at this
  exact this
theorem dash_len {w p : Str} (h : p ∈ Txt.split w dashS) : p.length ≤ w.length := by
  have hm : tl p ∈ (Txt.split w dashS).map tl := List.mem_map.mpr ⟨p, h, rfl⟩
  rw [split_dash] at hm
  have := spl_len 45 _ _ _ hm
  rw [len_tl, len_tl w]
  simpa using this
theorem blank_len {w p : Str} (h : p ∈ Txt.split w blankS) : p.length ≤ w.length := by
  have hm : tl p ∈ (Txt.split w blankS).map tl := List.mem_map.mpr ⟨p, h, rfl⟩
  rw [split_blank] at hm
  have := spl_len 32 _ _ _ hm
  rw [len_tl, len_tl w]
  simpa using this
theorem allV_len : ∀ {ws : List Str} {ss : List (Int × Int)}, allV ws = some ss → ss.length = ws.length
  | [], ss, h => by cases h; rfl
  | w :: ws, ss, h => by
    unfold allV at h
    split at h
    · rename_i s r h1 h2
      cases h
      simp [allV_len h2]
    · cases h
/-- the first word that is none -/
theorem allV_none : ∀ {ws : List Str}, allV ws = none → ∃ j w, ws[j]? = some w ∧ wordV w = none ∧ ∀ (i : Nat) (v : Str), i < j → ws[i]? = some v → ∃ s, wordV v = some s
  | [], h => by cases h
  | w :: ws, h => by
    cases e : wordV w with
    | none => exact ⟨0, w, rfl, e, fun i v hi => absurd hi (Nat.not_lt_zero _)⟩
    | some s =>
      cases e2 : allV ws with
      | some r => unfold allV at h; rw [e, e2] at h; cases h
      | none =>
        obtain ⟨j, v, h1, h2, h3⟩ := allV_none e2
        refine ⟨j + 1, v, h1, h2, fun i u hi hu => ?_⟩
        cases i with
        | zero => simp at hu; subst hu; exact ⟨s, e⟩
        | succ i => exact h3 i u (by omega) (by simpa using hu)
theorem allV_get : ∀ {ws : List Str} {ss : List (Int × Int)}, allV ws = some ss → ss = ws.map (fun w => (wordV w).getD (0, 0)) ∧ ∀ w ∈ ws, ∃ s, wordV w = some s
  | [], ss, h => by cases h; exact ⟨rfl, fun _ h => nomatch h⟩
  | w :: ws, ss, h => by
    unfold allV at h
    split at h
    · rename_i s r h1 h2
      cases h
      obtain ⟨e, k⟩ := allV_get h2
      refine ⟨by rw [List.map_cons, h1, ← e]; rfl, fun v hv => ?_⟩
      rcases List.mem_cons.mp hv with z | z
      · subst z; exact ⟨s, h1⟩
      · exact k v z
    · cases h
/-! ### promises -/
def R_numX (as : List Sl) (d : D) : Prop := ∃ w, as = [.d (.str w)] ∧ numB w = true ∧ d = .int (numV w)
def C_numX (xa : XA) (as : List Sl) (c : Value) : Prop := ∃ w, as = [.d (.str w)] ∧ w.length ≤ 1000000 ∧ numB w = false ∧ c = .ref (xa .NoText)
def sp_number_ofX (K : PySem.W.Frag) (xa : XA) : Sp := spU K R_numX (C_numX xa)
def R_stoneX (as : List Sl) (d : D) : Prop := ∃ w s, as = [.d (.str w)] ∧ w.length ≤ 1000000 ∧ wordV w = some s ∧ d = stD s
def C_stoneX (xa : XA) (as : List Sl) (c : Value) : Prop := ∃ w, as = [.d (.str w)] ∧ w.length ≤ 1000000 ∧ wordV w = none ∧ c = .ref (xa .NoText)
def sp_stone_ofX (K : PySem.W.Frag) (xa : XA) : Sp := spU K R_stoneX (C_stoneX xa)
def R_readX (as : List Sl) (d : D) : Prop := ∃ z ss, as = [.d (.str z)] ∧ z.length ≤ 1000000 ∧ readV z = some ss ∧ d = stonesD ss
def C_readX (xa : XA) (as : List Sl) (c : Value) : Prop := ∃ z, as = [.d (.str z)] ∧ z.length ≤ 1000000 ∧ readV z = none ∧ c = .ref (xa .NoText)
def sp_readX (K : PySem.W.Frag) (xa : XA) : Sp := spU K R_readX (C_readX xa)
def t_number_ofX (K : PySem.W.Frag) (w : World) (E : XK) (xa : XA) : TS :=
    (tSeq (tIfS (tOr (tNot (tTest (tChain (rI0 fun i j => .bl (decide (i ≤ j))) (rI0 fun i j => .bl (decide (i ≤ j))) (tC (.int 1)) (tCB (cLenS) (tCons (tVar 0) tNil)) (tC (.int 6))))) (tNot (tB (tCB (rAll K) (tCons (tLc (iStr (tVar 0)) (gName 1) tYes (tOp (oInSg) (tVar 1) (tC (.str (Str.ofString "0123456789")))) [1]) tNil)))))
    (tRaise E (.ref (xa .NoText)))
    tNext)
    (tSeq (tIfS (tAnd (tTest (tOp (rEq) (tOp (rIxS) (tVar 0) (tC (.int 0))) (tC (.str (Str.ofString "0"))))) (tTest (tOp (rNe) (tVar 0) (tC (.str (Str.ofString "0"))))))
    (tRaise E (.ref (xa .NoText)))
    tNext)
    (tRet (tCB (cIntS) (tCons (tVar 0) tNil)))))
def t_stone_ofX (K : PySem.W.Frag) (w : World) (E : XK) (xa : XA) : TS :=
    (tSeq (tAsg (tM1 oSplit (tVar 0) (tC (.str (Str.ofString "-")))) (gName 1))
    (tSeq (tIfS (tTest (tOp (rNe) (tCB (cLen K) (tCons (tVar 1) tNil)) (tC (.int 2))))
    (tRaise E (.ref (xa .NoText)))
    tNext)
    (tRet (tTup (tCons (tCall (sp_number_ofX K xa) [] E (tCons (tOp (rIxL K) (tVar 1) (tC (.int 0))) tNil)) (tCons (tCall (sp_number_ofX K xa) [] E (tCons (tOp (rIxL K) (tVar 1) (tC (.int 1))) tNil)) tNil))))))
def t_readX (K : PySem.W.Frag) (w : World) (E : XK) (xa : XA) : TS :=
    (tSeq (tIfS (tTest (tOp (rEq) (tVar 0) (tC (.str (Str.ofString "")))))
    (tRet (tLst tNil))
    tNext)
    (tSeq (tAsg (tM1 oSplit (tVar 0) (tC (.str (Str.ofString " ")))) (gName 1))
    (tSeq (tIfS (tTest (tOp (rI0 fun i j => .bl (decide (j < i))) (tCB (cLen K) (tCons (tVar 1) tNil)) (tC (.int 60))))
    (tRaise E (.ref (xa .NoText)))
    tNext)
    (tRet (tLc (iList K (tVar 1)) (gName 2) tYes (tCall (sp_stone_ofX K xa) [] E (tCons (tVar 2) tNil)) [2])))))
section
variable {E : Ent} {δ δ' : List Sl} {ta tb te tc : TE} {d x y : D} {w : World} {W : XK} {xa : XA} {tt : TT} {g : TG} {wi : TI}
/-! ### an exception within a tuple, a comprehension -/
theorem evX_tup1 {t : TA} (h : EvX E ta δ) : EvX E (tTup (tCons ta t)) δ := fun σ G H Q s => h σ G H _ s
theorem evX_tup2 {t : TA} (ha : Ev E ta δ d) (h : EvX E tb δ) : EvX E (tTup (tCons ta (tCons tb t))) δ := fun σ G H Q s => ha σ G H _ s fun v G1 H1 g1 r1 => h σ G1 H1 _ (s.grow g1)
theorem evX_lcAt {α : Type} (ls : List α) (enc : α → D) (val : α → D) {vs : List Nat} (j : Nat) (hj : j < ls.length) (hi : EvIc E wi δ (ls.map enc)) (hz : ls.length ≤ 100000)
    (turn : ∀ i a, i < j → ls[i]? = some a → ∃ js δ2, (∀ k ∈ js, k ∈ vs) ∧ Tg E js g (enc a) (wipeS δ vs) δ2 ∧ Ev E te δ2 (val a)) (bad : ∀ a, ls[j]? = some a → ∃ js δ2, (∀ k ∈ js, k ∈ vs) ∧ Tg E js g (enc a) (wipeS δ vs) δ2 ∧ EvX E te δ2) : EvX E (tLc wi g tYes te vs) δ := fun σ G H Q s => hi σ G H _ s fun J G1 H1 g1 w => by
  intro Dl hD
  have s1 := s.grow g1
  have lenw : (ls.map enc).length = ls.length := List.length_map _
  have gD : G1 Dl = none := g1.i.free hD
  refine lc_it w (fun i H' => i ≤ j ∧ ∃ G' acc, Same G1 G' ∧ Same H1 H' ∧ Same G' H' ∧ (∀ a, H1 a ≠ none → G1 a = none → G' a = none) ∧ G' Dl = none ∧ H' Dl = some (.lst acc) ∧ RpA G' ((ls.take i).map val) acc) ⟨Nat.zero_le _, G1, [], Same.refl _, same_new hD, same_mut g1.i gD, fun _ _ h => h, gD, upd_same, rfl⟩ (fun i H' _ ⟨_, G', acc, e, eh, i', _⟩ => eh) (fun i v H' H2 hi' ⟨hij, G', acc, e, eh, i', n', gd, hd, r⟩ y => ?_) (fun H' ⟨hij, _⟩ => ?_)
  · obtain ⟨G2, x, hx, g2, rx⟩ := y G' e i'
    rw [lenw] at hi'
    have hx2 : x = enc ls[i] := by
      rw [List.getElem?_map, List.getElem?_eq_getElem hi'] at hx
      exact (Option.some.inj hx).symm
    subst hx2
    have gr2 : Gr G1 H1 G2 H2 := (⟨e, eh, n', i'⟩ : Gr G1 H1 G' H').trans g2
    have s2 := (s1.grow gr2).wiped vs
    by_cases hlt : i < j
    · obtain ⟨js, δ2, hj', tg, elt⟩ := turn i ls[i] hlt (List.getElem?_eq_getElem hi')
      have tk : ls.take (i + 1) = ls.take i ++ [ls[i]] := by rw [List.take_succ, List.getElem?_eq_getElem hi']; rfl
      have hd2 : H2 Dl = some (.lst acc) := g2.h _ _ hd
      have gd2 : G2 Dl = none := g2.n Dl (by rw [hd]; simp) gd
      refine tg _ G2 H2 _ v s2 rx fun σ3 s3 wp => ⟨by rw [wp vs hj', wipe_wipe], et_yes σ3 G2 H2 _ s3 fun G3 H3 g3 => ?_⟩
      rw [if_pos rfl]
      refine elt σ3 G3 H3 _ (s3.grow g3) fun z G4 H4 g4 rz => ?_
      have g4 := g3.trans g4
      have gr4 := gr2.trans g4
      have hd4 : H4 Dl = some (.lst acc) := g4.h _ _ hd2
      have gd4 : G4 Dl = none := g4.n Dl (by rw [hd2]; simp) gd2
      have racc : RpA G4 ((ls.take i).map val) acc := RpA.mono (g2.g.trans g4.g) _ _ r
      refine ⟨acc, hd4, ?_, hlt, G4, acc ++ [z], gr4.g, same_mut gr4.h hD, same_mut gr4.i gd4, gr4.n, gd4, upd_same, ?_⟩
      · rw [racc.len, List.length_map]
        have h3 : (100000 : Nat) < sizeLine := by decide
        have h4 : (ls.take i).length ≤ ls.length := by rw [List.length_take]; omega
        omega
      · rw [tk, List.map_append]
        exact racc.snoc rz
    · have e : i = j := by omega
      subst e
      obtain ⟨js, δ2, hj', tg, elt⟩ := bad ls[i] (List.getElem?_eq_getElem hi')
      refine tg _ G2 H2 _ v s2 rx fun σ3 s3 wp => ⟨by rw [wp vs hj', wipe_wipe], et_yes σ3 G2 H2 _ s3 fun G3 H3 g3 => ?_⟩
      rw [if_pos rfl]
      exact elt σ3 G3 H3 _ (s3.grow g3)
  · rw [lenw] at hij
    exact absurd hij (by omega)
/-! ### number_of -/
theorem figsN : (Str.ofString "0123456789").cps.toList = [48, 49, 50, 51, 52, 53, 54, 55, 56, 57] := by decide +kernel
theorem fig_mem (c : Nat) : decide (c ∈ (Str.ofString "0123456789").cps.toList) = digB c := by
  rw [figsN]
  unfold digB
  by_cases h : 48 ≤ c ∧ c ≤ 57
  · obtain ⟨h1, h2⟩ := h
    have : c = 48 ∨ c = 49 ∨ c = 50 ∨ c = 51 ∨ c = 52 ∨ c = 53 ∨ c = 54 ∨ c = 55 ∨ c = 56 ∨ c = 57 := by omega
    rw [decide_eq_true h1, decide_eq_true h2]
    exact decide_eq_true (by simpa using this)
  · have : ¬ c ∈ [48, 49, 50, 51, 52, 53, 54, 55, 56, 57] := by
      simp only [List.mem_cons, List.not_mem_nil, or_false]
      omega
    rw [decide_eq_false this]
    by_cases h1 : 48 ≤ c
    · rw [decide_eq_true h1, decide_eq_false (fun z => h ⟨h1, z⟩)]; rfl
    · rw [decide_eq_false h1]; rfl
theorem len_test {z : Str} {δ : List Sl} (h : δ[0]? = some (.d (.str z))) (hl : z.length ≤ 1000000) : Et E (tTest (tChain (rI0 fun i j => .bl (decide (i ≤ j))) (rI0 fun i j => .bl (decide (i ≤ j))) (tC (.int 1)) (tCB (cLenS) (tCons (tVar 0) tNil)) (tC (.int 6)))) δ (lenB z) :=
  et_test (ev_chain (a := decide ((1 : Int) ≤ (z.length : Int))) (b := decide ((z.length : Int) ≤ 6)) ev_int (ev_lenS (ev_var h) hl) op_bool (fun _ => ev_int) fun _ => op_bool)
theorem fig_test {z : Str} (hl : z.length ≤ 1000) : Et E (tB (tCB (rAll E.K) (tCons (tLc (iStr (tVar 0)) (gName 1) tYes (tOp (oInSg) (tVar 1) (tC (.str (Str.ofString "0123456789")))) [1]) tNil))) (argSl [.d (.str z)] 1) ((tl z).all digB) := by
  have key : EvF E (tLc (iStr (tVar 0)) (gName 1) tYes (tOp oInSg (tVar 1) (tC (.str (Str.ofString "0123456789")))) [1]) (argSl [.d (.str z)] 1) ((tl z).map fun c => .bool (digB c)) := by
    refine evF_map (tl z) (fun c => .str ⟨#[c]⟩) (fun c => .bool (digB c)) (EvI.c (ei_str (E := E) (te := tVar 0) (z := z) (δ := argSl [.d (.str z)] 1) (ev_var rfl))) (by rw [← len_tl]; omega) fun c hc => ⟨_, _, by simp, tg_name, ?_⟩
    exact (ev_inSg (ev_var rfl) ev_str).is (by rw [fig_mem])
  have e : ((tl z).map fun c => PyData.bool (digB c)) = ((tl z).map digB).map .bool := by rw [List.map_map]; rfl
  rw [e] at key
  exact (et_B (ev_all key.ev)).is (by rw [List.all_map]; rfl)
theorem first_test {z : Str} (hl : z.length ≤ 1000000) : Et E (tOr (tNot (tTest (tChain (rI0 fun i j => .bl (decide (i ≤ j))) (rI0 fun i j => .bl (decide (i ≤ j))) (tC (.int 1)) (tCB (cLenS) (tCons (tVar 0) tNil)) (tC (.int 6))))) (tNot (tB (tCB (rAll E.K) (tCons (tLc (iStr (tVar 0)) (gName 1) tYes (tOp (oInSg) (tVar 1) (tC (.str (Str.ofString "0123456789")))) [1]) tNil))))) (argSl [.d (.str z)] 1) (!lenB z || !(tl z).all digB) :=
  et_or (et_not (len_test rfl hl)) fun e => et_not (fig_test (by
    have e : lenB z = true := by simpa using e
    unfold lenB at e
    simp only [Bool.and_eq_true, decide_eq_true_eq] at e
    omega))
theorem noughtN : Str.ofString "0" = ⟨#[48]⟩ := by decide +kernel
theorem len_some {z : Str} (h : lenB z = true) : ∃ c r, tl z = c :: r ∧ z.length ≤ 6 := by
  unfold lenB at h
  simp only [Bool.and_eq_true, decide_eq_true_eq] at h
  cases e : tl z with
  | nil => rw [len_tl, e] at h; simp at h
  | cons c r => exact ⟨c, r, rfl, by omega⟩
theorem second_test {z : Str} {c : Nat} {r : List Nat} (h : tl z = c :: r) (hl : z.length ≤ 6) : Et E (tAnd (tTest (tOp (rEq) (tOp (rIxS) (tVar 0) (tC (.int 0))) (tC (.str (Str.ofString "0"))))) (tTest (tOp (rNe) (tVar 0) (tC (.str (Str.ofString "0")))))) (argSl [.d (.str z)] 1) (decide ((tl z).head? = some 48) && decide (z ≠ Str.ofString "0")) := by
  refine (et_and (et_test (ev_eqS (ev_ixSg (c := c) (ev_var rfl) ev_int (by omega) (by have h : z.cps.toList = c :: r := h; rw [h]; exact atI_0)) ev_str)) fun _ => et_test (ev_neS (ev_var rfl) ev_str)).is ?_
  have e1 : decide ((⟨#[c]⟩ : Str) = Str.ofString "0") = decide ((tl z).head? = some 48) := by
    rw [h, noughtN]
    by_cases e : c = 48
    · subst e; simp
    · have : ¬ ((⟨#[c]⟩ : Str) = ⟨#[48]⟩) := fun q => by
        injection q with q
        have := congrArg Array.toList q
        simp at this
        exact e this
      simp [e, this]
  rw [e1]
  by_cases e : z = Str.ofString "0" <;> simp [e]
theorem xs_number_ofX_ok (z : Str) (h : numB z = true) : Xs E (t_number_ofX E.K w W xa) (argSl [.d (.str z)] 1) fun o => o = .rt (.int (numV z)) := by
  unfold numB at h
  simp only [Bool.and_eq_true, Bool.not_eq_true'] at h
  obtain ⟨⟨h1, h2⟩, h3⟩ := h
  obtain ⟨c, r, hc, hl⟩ := len_some h1
  refine q_when (b := false) ((first_test (by omega)).is (by rw [h1, h2]; rfl)) (fun z => nomatch z) fun _ => ?_
  refine q_when (b := false) ((second_test hc hl).is h3) (fun z => nomatch z) fun _ => ?_
  have hd : NumText.AllDigits z.cps.toList := fun x hx => by
    have := List.all_eq_true.mp h2 x hx
    unfold digB at this
    simpa using this
  have hn : z.cps.toList ≠ [] := fun e => by
    have : tl z = [] := e
    rw [hc] at this; cases this
  exact xs_ret (ev_intS (ev_var rfl) (intText_digits hd hn (by omega)) (by omega)) rfl
theorem xs_number_ofX_no (z : Str) (hz : z.length ≤ 1000000) (h : numB z = false) (hW : Wm E W (.ref (xa .NoText))) : Xs E (t_number_ofX E.K w W xa) (argSl [.d (.str z)] 1) fun _ => False := by
  by_cases h1 : (!lenB z || !(tl z).all digB) = true
  · exact q_when (b := true) ((first_test hz).is h1) (fun _ => xs_raise hW) fun z => nomatch z
  · have h1 : (!lenB z || !(tl z).all digB) = false := by simpa using h1
    simp only [Bool.or_eq_false_iff, Bool.not_eq_false'] at h1
    obtain ⟨c, r, hc, hl⟩ := len_some h1.1
    refine q_when (b := false) ((first_test hz).is (by rw [h1.1, h1.2]; rfl)) (fun z => nomatch z) fun _ => ?_
    refine q_when (b := true) ((second_test hc hl).is ?_) (fun _ => xs_raise hW) fun z => nomatch z
    unfold numB at h
    rw [h1.1, h1.2] at h
    simpa using h
/-! ### stone_of -/
theorem evc_num {a : Str} (ha : Ev E ta δ (.str a)) (h : numB a = true) : Ev E (tCall (sp_number_ofX E.K xa) [] W (tCons ta tNil)) δ (.int (numV a)) := ev_callU (ea_d ha ea_nil) ⟨a, rfl, h, rfl⟩
theorem evX_num {a : Str} (ha : Ev E ta δ (.str a)) (hl : a.length ≤ 1000000) (h : numB a = false) (hW : Wm E W (.ref (xa .NoText))) : EvX E (tCall (sp_number_ofX E.K xa) [] W (tCons ta tNil)) δ := evX_call (ea_d ha ea_nil) ⟨a, rfl, hl, h, rfl⟩ hW
theorem split_any {z : Str} {n : Nat} (hz : z.length ≤ 1000000) : EvF E (tM1 oSplit (tVar 0) (tC (.str (Str.ofString "-")))) (argSl [.d (.str z)] n) ((Txt.split z dashS).map .str) :=
  evF_split (E := E) (ta := tVar 0) (tb := tC (.str (Str.ofString "-"))) (a := z) (b := dashS) (δ := argSl [.d (.str z)] n) (ev_var rfl) ev_str (by decide +kernel) hz
theorem two_of {ps : List Str} {s : Int × Int} (h : pairV ps = some s) : ∃ a b, ps = [a, b] ∧ numB a = true ∧ numB b = true ∧ s = (numV a, numV b) := by
  unfold pairV at h
  split at h
  · rename_i a b
    split at h
    · rename_i k
      cases h
      exact ⟨a, b, rfl, k.1, k.2, rfl⟩
    · cases h
  · cases h
theorem xs_stone_ofX_ok (z : Str) (s : Int × Int) (hz : z.length ≤ 1000000) (h : wordV z = some s) : Xs E (t_stone_ofX E.K w W xa) (argSl [.d (.str z)] 1) fun o => o = .rt (stD s) := by
  obtain ⟨a, b, e, ha, hb, rfl⟩ := two_of h
  have key := split_any (E := E) (n := 1) hz
  rw [e] at key
  refine q_asg key.ev ?_
  refine q_when (b := false) ((et_test (ev_neI (ev_lenL (xs := [.str a, .str b]) (ev_var rfl)) ev_int)).is (by simp)) (fun z => nomatch z) fun _ => ?_
  exact xs_ret (ev_tup (ds := [.int (numV a), .int (numV b)]) (ed_cons (evc_num (ev_ixL (xs := [.str a, .str b]) (ev_var rfl) ev_int atI_0) ha) (ed_cons (evc_num (ev_ixL (xs := [.str a, .str b]) (ev_var rfl) ev_int atI_1) hb) ed_nil)) (by show 2 ≤ 100000; decide)) rfl
theorem xs_stone_ofX_no (z : Str) (hz : z.length ≤ 1000000) (h : wordV z = none) (hW : Wm E W (.ref (xa .NoText))) : Xs E (t_stone_ofX E.K w W xa) (argSl [.d (.str z)] 1) fun _ => False := by
  have key := split_any (E := E) (n := 1) hz
  have hl : ∀ p ∈ Txt.split z dashS, p.length ≤ 1000000 := fun p hp => Nat.le_trans (dash_len hp) hz
  refine q_asg key.ev ?_
  unfold wordV at h
  generalize Txt.split z dashS = ps at h hl
  by_cases h2 : ps.length = 2
  · match ps, h2 with
    | [a, b], _ =>
      refine q_when (b := false) ((et_test (ev_neI (ev_lenL (xs := [.str a, .str b]) (ev_var rfl)) ev_int)).is (by simp)) (fun z => nomatch z) fun _ => ?_
      by_cases ha : numB a = true
      · have hb : numB b = false := by
          cases q : numB b with
          | false => rfl
          | true =>
            change (if numB a = true ∧ numB b = true then some (numV a, numV b) else none) = none at h
            rw [if_pos ⟨ha, q⟩] at h
            cases h
        exact xs_retX (evX_tup2 (evc_num (ev_ixL (xs := [.str a, .str b]) (ev_var rfl) ev_int atI_0) ha) (evX_num (ev_ixL (xs := [.str a, .str b]) (ev_var rfl) ev_int atI_1) (hl b (by simp)) hb hW))
      · exact xs_retX (evX_tup1 (evX_num (ev_ixL (xs := [.str a, .str b]) (ev_var rfl) ev_int atI_0) (hl a (by simp)) (by simpa using ha) hW))
  · refine q_when (b := true) ((et_test (ev_neI (ev_lenL (xs := ps.map .str) (ev_var rfl)) ev_int)).is ?_) (fun _ => xs_raise hW) fun z => nomatch z
    have : ¬ ((ps.length : Int) = 2) := by omega
    simp [this]
/-! ### read -/
theorem split_anyB {z : Str} {n : Nat} (hz : z.length ≤ 1000000) : EvF E (tM1 oSplit (tVar 0) (tC (.str (Str.ofString " ")))) (argSl [.d (.str z)] n) ((Txt.split z blankS).map .str) :=
  evF_split (E := E) (ta := tVar 0) (tb := tC (.str (Str.ofString " "))) (a := z) (b := blankS) (δ := argSl [.d (.str z)] n) (ev_var rfl) ev_str (by decide +kernel) hz
theorem ei_words {ws : List Str} {n : Nat} {δ : List Sl} (h : δ[n]? = some (.d (.list (ws.map .str)))) : EvIc E (iList E.K (tVar n)) δ (ws.map PyData.str) := EvI.c (ei_list (E := E) (K := E.K) (te := tVar n) (xs := ws.map .str) (δ := δ) (ev_var h))
theorem xs_readX_ok (z : Str) (ss : List (Int × Int)) (hz : z.length ≤ 1000000) (h : readV z = some ss) : Xs E (t_readX E.K w W xa) (argSl [.d (.str z)] 2) fun o => o = .rt (stonesD ss) := by
  unfold readV at h
  by_cases h0 : z = Str.ofString ""
  · rw [if_pos h0] at h
    cases h
    exact q_when (b := true) ((et_test (ev_eqS (ev_var rfl) ev_str)).is (by simp [h0])) (fun _ => xs_ret (d := stonesD []) (ev_lst ed_nil (by decide)) rfl) fun z => nomatch z
  · rw [if_neg h0] at h
    split at h
    · rename_i h60
      refine q_when (b := false) ((et_test (ev_eqS (ev_var rfl) ev_str)).is (by simp [h0])) (fun z => nomatch z) fun _ => ?_
      refine q_asg (split_anyB (n := 2) hz).ev ?_
      have hl : ∀ p ∈ Txt.split z blankS, p.length ≤ 1000000 := fun p hp => Nat.le_trans (blank_len hp) hz
      generalize Txt.split z blankS = ws at h hl h60
      obtain ⟨e, k⟩ := allV_get h
      refine q_when (b := false) ((et_test (ev_gt (ev_lenL (xs := ws.map .str) (ev_var rfl)) ev_int)).is (by simp; omega)) (fun z => nomatch z) fun _ => ?_
      have k2 : EvF E (tLc (iList E.K (tVar 1)) (gName 2) tYes (tCall (sp_stone_ofX E.K xa) [] W (tCons (tVar 2) tNil)) [2]) [.d (.str z), .d (.list (ws.map .str)), .no] (ws.map fun w => stD ((wordV w).getD (0, 0))) := by
        refine evF_map ws .str (fun w => stD ((wordV w).getD (0, 0))) (ei_words rfl) (by omega) fun v hv => ⟨_, _, by simp, tg_name, ?_⟩
        obtain ⟨s, hs⟩ := k v hv
        rw [hs]
        exact ev_callU (ea_d (ev_var rfl) ea_nil) ⟨v, s, rfl, hl v hv, hs, rfl⟩
      have e2 : (ws.map fun w => stD ((wordV w).getD (0, 0))) = ss.map stD := by rw [e, List.map_map]; rfl
      rw [e2] at k2
      exact xs_ret k2.ev rfl
    · cases h
theorem xs_readX_no (z : Str) (hz : z.length ≤ 1000000) (h : readV z = none) (hW : Wm E W (.ref (xa .NoText))) : Xs E (t_readX E.K w W xa) (argSl [.d (.str z)] 2) fun _ => False := by
  unfold readV at h
  by_cases h0 : z = Str.ofString ""
  · rw [if_pos h0] at h; cases h
  · rw [if_neg h0] at h
    refine q_when (b := false) ((et_test (ev_eqS (ev_var rfl) ev_str)).is (by simp [h0])) (fun z => nomatch z) fun _ => ?_
    refine q_asg (split_anyB (n := 2) hz).ev ?_
    have hl : ∀ p ∈ Txt.split z blankS, p.length ≤ 1000000 := fun p hp => Nat.le_trans (blank_len hp) hz
    generalize Txt.split z blankS = ws at h hl
    by_cases h60 : ws.length ≤ 60
    · rw [if_pos h60] at h
      obtain ⟨j, v, h1, h2, h3⟩ := allV_none h
      refine q_when (b := false) ((et_test (ev_gt (ev_lenL (xs := ws.map .str) (ev_var rfl)) ev_int)).is (by simp; omega)) (fun z => nomatch z) fun _ => ?_
      have hj := (List.getElem?_eq_some_iff.mp h1).1
      refine xs_retX (evX_lcAt ws PyData.str (fun w => stD ((wordV w).getD (0, 0))) j hj (ei_words rfl) (by omega) (fun i u hi hu => ⟨_, _, by simp, tg_name, ?_⟩) fun u hu => ⟨_, _, by simp, tg_name, ?_⟩)
      · obtain ⟨s, hs⟩ := h3 i u hi hu
        rw [hs]
        exact ev_callU (ea_d (ev_var rfl) ea_nil) ⟨u, s, rfl, hl u (List.mem_of_getElem? hu), hs, rfl⟩
      · rw [h1] at hu
        cases hu
        exact evX_call (ea_d (ev_var rfl) ea_nil) ⟨v, rfl, hl v (List.mem_of_getElem? h1), h2, rfl⟩ hW
    · refine q_when (b := true) ((et_test (ev_gt (ev_lenL (xs := ws.map .str) (ev_var rfl)) ev_int)).is ?_) (fun _ => xs_raise hW) fun z => nomatch z
      have : (60 : Int) < (ws.length : Int) := by omega
      simp [this]
end
end PL

/-! L11: texts with changes: read as the stones they write, or refused. -/
namespace PL
open PySem PySem.Spec PyProof.Rows L2 TL
/-- plain signs only -/
def Asc (z : Str) : Prop := ∀ c ∈ tl z, c < 128
def numO (w : Str) : Option Int := if numB w = true then some (numV w) else none
def optD : Option Int → D
  | none => .none
  | some i => .int i
def optS : Option (List (Int × Int)) → D
  | none => .none
  | some ss => stonesD ss
def toldD : Option (List (Int × Int)) → D
  | none => .str (Str.ofString "none")
  | some ss => stonesD ss
def R_law_number (as : List Sl) (d : D) : Prop := ∃ z, as = [.d (.str z)] ∧ z.length ≤ 1000000 ∧ Asc z ∧ d = optD (numO z)
def sp_law_number (K : PySem.W.Frag) : Sp := spR K R_law_number
def R_law_read (as : List Sl) (d : D) : Prop := ∃ z, as = [.d (.str z)] ∧ z.length ≤ 20000 ∧ Asc z ∧ d = optS (readV z)
def sp_law_read (K : PySem.W.Frag) : Sp := spR K R_law_read
def Pre_bent (as : List Sl) : Prop := ∃ z c, as = [.d (.str z), .d (.int c)] ∧ z.length ≤ 20000 ∧ Asc z ∧ 0 ≤ c
def R_bent (as : List Sl) (d : D) : Prop := ∀ z c, as = [.d (.str z), .d (.int c)] → ∃ z', d = .str z' ∧ Asc z' ∧ z'.length ≤ 2 * z.length + 20
def sp_law_bent (K : PySem.W.Frag) : Sp := spX K Pre_bent R_bent
def R_told11 (as : List Sl) (d : D) : Prop := ∃ z, as = [.d (.str z)] ∧ z.length ≤ 1000000 ∧ d = toldD (readV z)
def sp_told11 (K : PySem.W.Frag) : Sp := spR K R_told11
def t_law_number (K : PySem.W.Frag) (w : World) : TS :=
    (tSeq (tIfS (tOr (tTest (tOp (rEq) (tVar 0) (tC (.str (Str.ofString ""))))) (tOr (tTest (tOp (rI0 fun i j => .bl (decide (j < i))) (tCB (cLenS) (tCons (tVar 0) tNil)) (tC (.int 6)))) (tAnd (tTest (tOp (rEq) (tOp (rIxS) (tVar 0) (tC (.int 0))) (tC (.str (Str.ofString "0"))))) (tTest (tOp (rNe) (tVar 0) (tC (.str (Str.ofString "0"))))))))
    (tRet (tC .non))
    tNext)
    (tSeq (tIfS (tTest (tOp (rNeD K) (tLc (iStr (tVar 0)) (gName 1) (tTest (tOp (oNotInSg) (tVar 1) (tC (.str (Str.ofString "0123456789"))))) (tVar 1) [1]) (tLst tNil)))
    (tRet (tC .non))
    tNext)
    (tRet (tCB (cIntS) (tCons (tVar 0) tNil)))))

def t_law_read (K : PySem.W.Frag) (w : World) : TS :=
    (tSeq (tIfS (tTest (tOp (rEq) (tVar 0) (tC (.str (Str.ofString "")))))
    (tRet (tLst tNil))
    tNext)
    (tSeq (tAsg (tLst tNil) (gName 1))
    (tSeq (tFor (iList K (tM1 oSplit (tVar 0) (tC (.str (Str.ofString " "))))) (gName 2)
    (tSeq (tAsg (tLc (iList K (tM1 oSplit (tVar 2) (tC (.str (Str.ofString "-"))))) (gName 4) tYes (tCall (sp_law_number K) [] E0 (tCons (tVar 4) tNil)) [4]) (gName 3))
    (tSeq (tIfS (tOr (tTest (tOp (rNe) (tCB (cLen K) (tCons (tVar 3) tNil)) (tC (.int 2)))) (tTest (tOp (rIn K false) (tC .non) (tVar 3))))
    (tRet (tC .non))
    tNext)
    (tDrop (tBM K "list" rAppend (tVar 1) (tCons (tTup (tCons (tOp (rIxL K) (tVar 3) (tC (.int 0))) (tCons (tOp (rIxL K) (tVar 3) (tC (.int 1))) tNil))) tNil))))))
    (tSeq (tIfS (tTest (tOp (rI0 fun i j => .bl (decide (j < i))) (tCB (cLen K) (tCons (tVar 1) tNil)) (tC (.int 60))))
    (tRet (tC .non))
    tNext)
    (tRet (tVar 1))))))

def t_law_bent (K : PySem.W.Frag) (w : World) : TS :=
    (tSeq (tAsg (tLst (tCons (tC (.str (Str.ofString ""))) (tCons (tC (.str (Str.ofString "-"))) (tCons (tC (.str (Str.ofString "1-"))) (tCons (tC (.str (Str.ofString "-1"))) (tCons (tC (.str (Str.ofString "1"))) (tCons (tC (.str (Str.ofString "1-2-3"))) (tCons (tC (.str (Str.ofString "01-2"))) (tCons (tC (.str (Str.ofString "1-02"))) (tCons (tC (.str (Str.ofString "00-0"))) (tCons (tC (.str (Str.ofString "1000000-1"))) (tCons (tC (.str (Str.ofString "1-1000000"))) (tCons (tC (.str (Str.ofString "999999-0"))) (tCons (tC (.str (Str.ofString "a-1"))) tNil)))))))))))))) (gName 2))
    (tSeq (tAsg (tOp (rCat) (tVar 2) (tLst (tCons (tC (.str (Str.ofString "1--2"))) (tCons (tC (.str (Str.ofString "+1-2"))) (tCons (tC (.str (Str.ofString "1 -2"))) (tCons (tC (.str (Str.ofString "1- 2"))) (tCons (tC (.str (Str.ofString "1_0-2"))) (tCons (tC (.str (Str.ofString "0-0"))) (tCons (tC (.str (Str.ofString "|"))) (tCons (tC (.str (Str.ofString "3-4|"))) (tCons (tC (.str (Str.ofString "1.0-2"))) (tCons (tC (.str (Str.ofString "--"))) (tCons (tC (.str (Str.ofString "1-2 "))) (tCons (tC (.str (Str.ofString " 1-2"))) (tCons (tC (.str (Str.ofString "x"))) tNil))))))))))))))) (gName 2))
    (tSeq (tAsg (tOp (rI (fun _ j => 0 < j) fun i j => .int (i % j)) (tOp (rI CDiv fun i j => .int (i / j)) (tVar 1) (tC (.int 16))) (tOp (rI0 fun i j => .int (i + j)) (tCB (cLenS) (tCons (tVar 0) tNil)) (tC (.int 1)))) (gName 3))
    (tSeq (tAsg (tOp (rI CDiv fun i j => .int (i / j)) (tVar 1) (tC (.int 16000))) (gName 4))
    (tSeq (tIfS (tTest (tOp (rI0 fun i j => .bl (decide (i < j))) (tOp (rI (fun _ j => 0 < j) fun i j => .int (i % j)) (tVar 1) (tC (.int 16))) (tC (.int 5))))
    (tRet (tOp (oCatS) (tOp (oCatS) (tSl (rSlS) (tVar 0) tNoPart (tPart (tVar 3))) (tOp (rIxS) (tC (.str (Str.ofString " 0123456789-|+a"))) (tOp (rI (fun _ j => 0 < j) fun i j => .int (i % j)) (tVar 4) (tC (.int 15))))) (tSl (rSlS) (tVar 0) (tPart (tVar 3)) tNoPart)))
    tNext)
    (tSeq (tIfS (tTest (tOp (rI0 fun i j => .bl (decide (i < j))) (tOp (rI (fun _ j => 0 < j) fun i j => .int (i % j)) (tVar 1) (tC (.int 16))) (tC (.int 9))))
    (tRet (tOp (oCatS) (tSl (rSlS) (tVar 0) tNoPart (tPart (tVar 3))) (tSl (rSlS) (tVar 0) (tPart (tOp (rI0 fun i j => .int (i + j)) (tVar 3) (tC (.int 1)))) tNoPart)))
    tNext)
    (tSeq (tIfS (tTest (tOp (rI0 fun i j => .bl (decide (i < j))) (tOp (rI (fun _ j => 0 < j) fun i j => .int (i % j)) (tVar 1) (tC (.int 16))) (tC (.int 12))))
    (tRet (tOp (oCatS) (tOp (oCatS) (tSl (rSlS) (tVar 0) tNoPart (tPart (tVar 3))) (tOp (rIxS) (tC (.str (Str.ofString " 0123456789-|+a"))) (tOp (rI (fun _ j => 0 < j) fun i j => .int (i % j)) (tVar 4) (tC (.int 15))))) (tSl (rSlS) (tVar 0) (tPart (tOp (rI0 fun i j => .int (i + j)) (tVar 3) (tC (.int 1)))) tNoPart)))
    tNext)
    (tSeq (tAsg (tM1 oSplit (tVar 0) (tC (.str (Str.ofString " ")))) (gName 5))
    (tSeq (tAsg (tOp (rI (fun _ j => 0 < j) fun i j => .int (i % j)) (tOp (rI CDiv fun i j => .int (i / j)) (tVar 4) (tC (.int 40))) (tOp (rI0 fun i j => .int (i + j)) (tCB (cLen K) (tCons (tVar 5) tNil)) (tC (.int 1)))) (gName 3))
    (tRet (tM1 (oJoin K) (tC (.str (Str.ofString " "))) (tOp (rCat) (tOp (rCat) (tSl (rSlL K) (tVar 5) tNoPart (tPart (tVar 3))) (tLst (tCons (tOp (rIxL K) (tVar 2) (tOp (rI (fun _ j => 0 < j) fun i j => .int (i % j)) (tVar 4) (tC (.int 26)))) tNil))) (tSl (rSlL K) (tVar 5) (tPart (tVar 3)) tNoPart)))))))))))))

def t_told11 (K : PySem.W.Frag) (w : World) (xa : XA) : TS :=
    (tSeq (tAsg (tC .non) (gName 1))
    (tSeq (tTryK K (.ref (xa .StoneError)) 2 (fun W => (tRet (tCallS (sp_readX K xa) (WE W) (tCons (tVar 0) tNil)))) (fun _ _ _ => tAsg (tVar 2) (gName 1)))
    (tSeq (tIfS (tOr (tNot (tB (tCB (rIsAny K) (tCons (tVar 1) (tCons (tC (.ref (xa .NoText))) tNil))))) (tB (tCB (rIsAnyT K) (tCons (tVar 1) (tCons (tTup (clsT ([Xn.NoLaying, Xn.NoStone, Xn.NoStones].map fun d => V.ref (xa d)))) tNil)))))
    (tRet (tC (.str (Str.ofString "other"))))
    tNext)
    (tRet (tC (.str (Str.ofString "none")))))))

def t_law11 (K : PySem.W.Frag) (w : World) (xa : XA) : TS :=
    (tSeq (tAsg (tSl (rSlL K) (tCall (sp_stones K) [] E0 (tCons (tVar 0) tNil)) tNoPart (tPart (tC (.int 59)))) (gName 1))
    (tSeq (tAsg (tM1 (oJoin K) (tC (.str (Str.ofString " "))) (tLc (iList K (tVar 1)) (gName 7) tYes (tOp (oCatS) (tOp (oCatS) (tCB (cStr) (tCons (tOp (rIxT K) (tVar 7) (tC (.int 0))) tNil)) (tC (.str (Str.ofString "-")))) (tCB (cStr) (tCons (tOp (rIxT K) (tVar 7) (tC (.int 1))) tNil))) [7])) (gName 2))
    (tSeq (tFor (iRng1 (tCons (tOp (rI0 fun i j => .int (i + j)) (tC (.int 1)) (tOp (rI (fun _ j => 0 < j) fun i j => .int (i % j)) (tCall (sp_cell K) [] E0 (tCons (tVar 0) (tCons (tC (.int 2)) tNil))) (tC (.int 3)))) tNil)) (gName 3)
    (tAsg (tCall (sp_law_bent K) [] E0 (tCons (tVar 2) (tCons (tCall (sp_cell K) [] E0 (tCons (tVar 0) (tCons (tOp (rI0 fun i j => .int (i + j)) (tC (.int 300)) (tVar 3)) tNil))) tNil))) (gName 2)))
    (tSeq (tAsg (tCall (sp_law_read K) [] E0 (tCons (tVar 2) tNil)) (gName 4))
    (tSeq (tFor (iRng1 (tCons (tC (.int 2)) tNil)) (gName 3)
    (tSeq (tAsg (tCall (sp_told11 K) [] E0 (tCons (tVar 2) tNil)) (gName 5))
    (tIfS (tOr (tAnd (tTest (tOp (oIsN) (tVar 4) (tC .non))) (tTest (tOp (rNeD K) (tVar 5) (tC (.str (Str.ofString "none")))))) (tAnd (tTest (tOp (oNotN) (tVar 4) (tC .non))) (tNot (tB (tCall (spA K 3) [] E0 (tCons (tVar 5) (tCons (tVar 4) tNil)))))))
    (tRet (tC (.bl false)))
    tNext)))
    (tSeq (tAsg (tM1 (oJoin K) (tC (.str (Str.ofString " "))) (tOp (rRep) (tLst (tCons (tC (.str (Str.ofString "1-2"))) tNil)) (tC (.int 60)))) (gName 6))
    (tRet (tAndV (tOp (rEq) (tCB (cLen K) (tCons (tCall (sp_readX K xa) [] E0 (tCons (tVar 6) tNil)) tNil)) (tC (.int 60))) (tOp (rEqD K) (tCall (sp_told11 K) [] E0 (tCons (tOp (oCatS) (tVar 6) (tC (.str (Str.ofString " 1-2")))) tNil)) (tC (.str (Str.ofString "none"))))))))))))
/-! ### plain -/
theorem spl_mem (s : Nat) : ∀ (L acc : List Nat), ∀ q ∈ spl [s] 0 acc L, ∀ c ∈ q, c ∈ acc ∨ c ∈ L
  | [], acc, q, h, c, hc => by
    rw [spl_nil] at h
    rw [List.mem_singleton.mp h] at hc
    exact .inl hc
  | d :: r, acc, q, h, c, hc => by
    by_cases e : pre [s] (d :: r) = true
    · rw [spl_hit e] at h
      rcases List.mem_cons.mp h with h | h
      · rw [h] at hc; exact .inl hc
      · rcases spl_mem s r [] q h c hc with z | z
        · exact absurd z (by simp)
        · exact .inr (List.mem_cons_of_mem _ z)
    · rw [spl_miss (by simpa using e)] at h
      rcases spl_mem s r (acc ++ [d]) q h c hc with z | z
      · rcases List.mem_append.mp z with z | z
        · exact .inl z
        · exact .inr (by rw [List.mem_singleton.mp z]; exact List.mem_cons_self)
      · exact .inr (List.mem_cons_of_mem _ z)
theorem spl_count (s : Nat) : ∀ (L acc : List Nat), (spl [s] 0 acc L).length ≤ L.length + 1 ∧ ((spl [s] 0 acc L).map List.length).sum ≤ acc.length + L.length
  | [], acc => by rw [spl_nil]; simp
  | d :: r, acc => by
    by_cases e : pre [s] (d :: r) = true
    · rw [spl_hit e]
      have h := spl_count s r []
      have hl : ([s] : List Nat).length - 1 = 0 := rfl
      rw [hl]
      simp only [List.length_cons, List.map_cons, List.sum_cons, List.length_nil] at h ⊢
      omega
    · rw [spl_miss (by simpa using e)]
      have h := spl_count s r (acc ++ [d])
      simp only [List.length_append, List.length_cons, List.length_nil] at h ⊢
      omega
theorem asc_dash {w p : Str} (hw : Asc w) (h : p ∈ Txt.split w dashS) : Asc p := fun c hc => by
  have hm : tl p ∈ (Txt.split w dashS).map tl := List.mem_map.mpr ⟨p, h, rfl⟩
  rw [split_dash] at hm
  rcases spl_mem 45 _ _ _ hm c hc with z | z
  · exact absurd z (by simp)
  · exact hw c z
theorem asc_blank {w p : Str} (hw : Asc w) (h : p ∈ Txt.split w blankS) : Asc p := fun c hc => by
  have hm : tl p ∈ (Txt.split w blankS).map tl := List.mem_map.mpr ⟨p, h, rfl⟩
  rw [split_blank] at hm
  rcases spl_mem 32 _ _ _ hm c hc with z | z
  · exact absurd z (by simp)
  · exact hw c z
theorem blank_count (z : Str) : (Txt.split z blankS).length ≤ z.length + 1 ∧ ((Txt.split z blankS).map (·.length)).sum ≤ z.length := by
  have h := spl_count 32 (tl z) []
  rw [← split_blank] at h
  rw [List.length_map, ← len_tl] at h
  have e : ((Txt.split z blankS).map tl).map List.length = (Txt.split z blankS).map (·.length) := by
    rw [List.map_map]
    exact List.map_congr_left fun y _ => (len_tl y).symm
  rw [e] at h
  simp only [List.length_nil] at h
  omega
theorem dash_count (z : Str) : (Txt.split z dashS).length ≤ z.length + 1 := by
  have h := (spl_count 45 (tl z) []).1
  rw [← split_dash, List.length_map, ← len_tl] at h
  exact h
theorem asc_append {a b : Str} (ha : Asc a) (hb : Asc b) : Asc (a ++ b) := fun c hc => by
  rw [tl_append] at hc
  rcases List.mem_append.mp hc with h | h
  · exact ha c h
  · exact hb c h
theorem len_append (a b : Str) : (a ++ b).length = a.length + b.length := by
  rw [len_tl, tl_append, List.length_append, ← len_tl, ← len_tl]
theorem asc_ofString {s : String} (h : (tl (Str.ofString s)).all (fun c => decide (c < 128)) = true) : Asc (Str.ofString s) := fun c hc => of_decide_eq_true (List.all_eq_true.mp h c hc)
theorem joinL_mem (S : List Nat) : ∀ (l : List (List Nat)) (c : Nat), c ∈ joinL S l → c ∈ S ∨ ∃ p ∈ l, c ∈ p
  | [], c, h => absurd h (by simp [joinL])
  | [p], c, h => .inr ⟨p, by simp, h⟩
  | p :: q :: r, c, h => by
    have h : c ∈ p ++ (S ++ joinL S (q :: r)) := h
    rcases List.mem_append.mp h with h | h
    · exact .inr ⟨p, by simp, h⟩
    · rcases List.mem_append.mp h with h | h
      · exact .inl h
      · rcases joinL_mem S (q :: r) c h with h | ⟨x, hx, hc⟩
        · exact .inl h
        · exact .inr ⟨x, List.mem_cons_of_mem _ hx, hc⟩
theorem asc_join {a : Str} {ys : List Str} (ha : Asc a) (h : ∀ y ∈ ys, Asc y) : Asc (Txt.join a ys) := fun c hc => by
  rw [join_eq, tl_join] at hc
  rcases joinL_mem _ _ c hc with z | ⟨p, hp, hc⟩
  · exact ha c z
  · obtain ⟨y, hy, rfl⟩ := List.mem_map.mp hp
    exact h y hy c hc
theorem tl_cut (z : Str) (lo hi : Option Int) : tl (cutS z lo hi) = ((tl z).drop (HT.sIx z.length 0 lo)).take (HT.sIx z.length z.length hi - HT.sIx z.length 0 lo) := rfl
theorem asc_cut {z : Str} (h : Asc z) (lo hi : Option Int) : Asc (cutS z lo hi) := fun c hc => by
  rw [tl_cut] at hc
  exact h c (List.mem_of_mem_drop (List.mem_of_mem_take hc))
theorem len_cut (z : Str) (lo hi : Option Int) : (cutS z lo hi).length ≤ z.length := by
  rw [len_tl, tl_cut, len_tl z, List.length_take, List.length_drop]
  omega
theorem asc_num {i : Int} (h : okN i) : Asc (numS i) := fun c hc => by
  obtain ⟨n, _, _, e⟩ := num_nat h
  rw [e] at hc
  have := numL_digits n c hc
  omega
theorem asc_st {s : Int × Int} (h : okN s.1 ∧ okN s.2) : Asc (stS s) := fun c hc => by
  rw [st_tl] at hc
  rcases List.mem_append.mp hc with hc | hc
  · rcases List.mem_append.mp hc with hc | hc
    · exact asc_num h.1 c hc
    · rw [List.mem_singleton.mp hc]; decide
  · exact asc_num h.2 c hc
theorem asc_blankS : Asc blankS := asc_ofString (by decide +kernel)
/-- what is written is read -/
theorem num_B {i : Int} (h : okN i) : numB (numS i) = true ∧ numV (numS i) = i := by
  have nl := num_len h
  obtain ⟨n, hn, hb, ht⟩ := num_nat h
  have h1 : lenB (numS i) = true := by
    unfold lenB
    rw [decide_eq_true (by omega), decide_eq_true (by omega)]
    rfl
  have h2 : (tl (numS i)).all digB = true := by
    rw [ht]
    refine List.all_eq_true.mpr fun c hc => ?_
    have := numL_digits n c hc
    unfold digB
    rw [decide_eq_true this.1, decide_eq_true this.2]
    rfl
  have h3 : (decide ((tl (numS i)).head? = some 48) && decide (numS i ≠ Str.ofString "0")) = false := by
    by_cases z : n = 0
    · subst z
      have e : numS i = Str.ofString "0" := by
        rw [noughtN]
        refine ext_tl ?_
        rw [ht, numL_lt (by decide)]
      have : decide (numS i ≠ Str.ofString "0") = false := decide_eq_false fun q => q e
      rw [this, Bool.and_false]
    · rw [ht, decide_eq_false (numL_head n (by omega)), Bool.false_and]
  refine ⟨by unfold numB; rw [h1, h2, h3]; rfl, ?_⟩
  unfold numV
  rw [ht, numL_val, hn]
theorem word_st {s : Int × Int} (h : okN s.1 ∧ okN s.2) : wordV (stS s) = some s := by
  unfold wordV
  rw [st_split h.1 h.2]
  show (if numB (numS s.1) = true ∧ numB (numS s.2) = true then some (numV (numS s.1), numV (numS s.2)) else none) = some s
  rw [if_pos ⟨(num_B h.1).1, (num_B h.2).1⟩, (num_B h.1).2, (num_B h.2).2]
theorem allV_st : ∀ {ss : List (Int × Int)}, (∀ s ∈ ss, okN s.1 ∧ okN s.2) → allV (ss.map stS) = some ss
  | [], _ => rfl
  | s :: ss, h => by
    rw [List.map_cons]
    unfold allV
    rw [word_st (h s List.mem_cons_self), allV_st fun t ht => h t (List.mem_cons_of_mem _ ht)]
theorem read_text {ss : List (Int × Int)} (h : ∀ s ∈ ss, okN s.1 ∧ okN s.2) (hne : ss ≠ []) : readV (textF ss) = if ss.length ≤ 60 then some ss else none := by
  unfold readV
  rw [if_neg (text_ne hne), text_split h hne, List.length_map]
  split
  · exact allV_st h
  · rfl
theorem allV_some : ∀ {ws : List Str}, (∀ w ∈ ws, ∃ s, wordV w = some s) → allV ws = some (ws.map fun w => (wordV w).getD (0, 0))
  | [], _ => rfl
  | w :: ws, h => by
    obtain ⟨s, hs⟩ := h w List.mem_cons_self
    unfold allV
    rw [hs, allV_some fun v hv => h v (List.mem_cons_of_mem _ hv), List.map_cons, hs]
    rfl
theorem allV_bad {ws : List Str} {w : Str} (h : w ∈ ws) (hw : wordV w = none) : allV ws = none := by
  cases e : allV ws with
  | none => rfl
  | some ss =>
    obtain ⟨s, hs⟩ := (allV_get e).2 w h
    rw [hw] at hs; cases hs
theorem shp_strs {ys : List Str} (h : ∀ y ∈ ys, Asc y) : SeqAt.shaped (.list (ys.map .str)) = true := by
  have key : ∀ ys : List Str, (∀ y ∈ ys, Asc y) → PyData.canLayAll0 (ys.map .str) = true ∧ PyData.depthAll (ys.map .str) = 0 := by
    intro ys
    induction ys with
    | nil => intro _; exact ⟨rfl, rfl⟩
    | cons y ys ih =>
      intro h
      obtain ⟨h1, h2⟩ := ih fun x hx => h x (List.mem_cons_of_mem _ hx)
      have hy : PyData.strOk y = true := by
        unfold PyData.strOk
        rw [Array.all_eq_true_iff_forall_mem]
        intro c hc
        have := h y List.mem_cons_self c (by show c ∈ y.cps.toList; exact Array.mem_toList_iff.mpr hc)
        simp
        omega
      rw [List.map_cons, PyData.canLayAll0, PyData.depthAll, h1, h2]
      simp [PyData.canLay0, PyData.depth, hy]
  obtain ⟨h1, h2⟩ := key ys h
  exact shp_of (by rw [PyData.canLay0]; exact h1) (by rw [PyData.depth, h2]; decide)
section
variable {E : Ent} {δ δ' : List Sl} {ta tb te tc : TE} {d x y : D} {w : World} {XE W : XK} {xa : XA} {Φ : Out → Prop} {u : TS} {mg : Str → Option Value}
theorem ev_notInSg {c : Nat} {z : Str} (ha : Ev E ta δ (.str ⟨#[c]⟩)) (hb : Ev E tb δ (.str z)) : Ev E (tOp oNotInSg ta tb) δ (.bool (!decide (c ∈ z.cps.toList))) :=
  ev_op ha hb (op_val (v := .bl (!decide (c ∈ z.cps.toList))) (fun _ _ x y Q _ _ r1 r2 q => ⟨c, z, r1, r2, q⟩) fun _ => rfl)
theorem ev_slS {z : Str} {tl_ th : TO} {lo hi : Option Int} (ha : Ev E ta δ (.str z)) (hl : Eo E tl_ δ lo) (hh : Eo E th δ hi) (hz : z.length ≤ 1000000) : Ev E (tSl rSlS ta tl_ th) δ (.str (cutS z lo hi)) := fun σ G H Q s k =>
  ha σ G H _ s fun v G1 H1 g1 r => hl σ G1 H1 _ (s.grow g1) fun G2 H2 g2 => hh σ G2 H2 _ (s.grow (g1.trans g2)) fun G3 H3 g3 => by
    have r : v = .str z := r
    subst r
    exact ⟨z, rfl, Nat.le_trans hz (by decide), k _ G3 H3 ((g1.trans g2).trans g3) rfl⟩
theorem xs_asgX {Pre : List Sl → Prop} {R : List Sl → D → Prop} {as : List Sl} {i : Nat} {XE : XK} {t : TA} (h : Ea E t δ as) (hp : Pre as) (k : ∀ d, R as d → Φ (.nx (δ.set i (.d d)))) : Xs E (tAsg (tCall (spX E.K Pre R) [] XE t) (gName i)) δ Φ := fun σ G H X s p =>
  h σ G H _ s fun us G1 H1 g1 r1 => by
    rw [List.append_nil]
    refine ⟨G1, as, g1.i, r1, hp, fun d v G2 H2 hd g2 r2 => ?_⟩
    exact p _ (k d hd) _ G2 H2 (g1.trans g2).g ((s.grow (g1.trans g2)).setD i r2)
theorem rp_opts {G : Hp} : ∀ {os : List (Option Int)} {vs : List V}, RpA G (os.map optD) vs → vs = os.map fun o => match o with | none => V.non | some i => V.int i
  | [], _, h => h
  | o :: os, _, ⟨v, r, h1, h2, h3⟩ => by
    subst h1
    rw [rp_opts h3, List.map_cons]
    cases o with
    | none => have h2 : v = V.non := h2; rw [h2]
    | some i => have h2 : v = V.int i := h2; rw [h2]
theorem ev_noneIn {os : List (Option Int)} (hb : Ev E tb δ (.list (os.map optD))) : Ev E (tOp (rIn E.K false) (tC .non) tb) δ (.bool (os.any Option.isNone)) :=
  ev_op ev_non hb fun G H a b Q i _ e ⟨p, us, e1, e2, e3⟩ k => by
    have e : a = .non := e
    have e5 := rp_opts e3
    subst e e1 e5
    refine ⟨p, _, rfl, .inl (sqL_of i e2), rfl, ?_, ?_⟩
    · rw [List.all_map]
      refine List.all_eq_true.mpr fun o _ => ?_
      cases o <;> rfl
    · have : inV .non (os.map fun o => match o with | none => V.non | some i => V.int i) = os.any Option.isNone := by
        unfold inV
        rw [List.any_map]
        congr 1
        funext o
        cases o <;> rfl
      show Q (.bl (inV _ _)) H
      rw [this]
      exact k _ G H (Gr.refl i) rfl
/-! ### the law's own number -/
theorem empty_tl {z : Str} (h : z ≠ Str.ofString "") : ∃ c r, tl z = c :: r := by
  cases e : tl z with
  | nil =>
    refine absurd (ext_tl ?_) h
    rw [e]; decide +kernel
  | cons c r => exact ⟨c, r, rfl⟩
theorem xs_law_number (z : Str) (hz : z.length ≤ 1000000) (hA : Asc z) : Xs E (t_law_number E.K w) (argSl [.d (.str z)] 1) fun o => o = .rt (optD (numO z)) := by
  refine q_when (b := decide (z = Str.ofString "") || (decide ((6 : Int) < (z.length : Int)) || (decide ((tl z).head? = some 48) && decide (z ≠ Str.ofString "0")))) (et_or (et_test (ev_eqS (ev_var rfl) ev_str)) fun e1 => et_or (et_test (ev_gt (ev_lenS (ev_var rfl) hz) ev_int)) fun e2 => ?_) (fun e => ?_) fun e => ?_
  · obtain ⟨c, r, hc⟩ := empty_tl (of_decide_eq_false e1)
    exact second_test hc (by have := of_decide_eq_false e2; omega)
  · have : numO z = none := by
      unfold numO
      refine if_neg fun hB => ?_
      unfold numB at hB
      simp only [Bool.and_eq_true, Bool.not_eq_true'] at hB
      obtain ⟨⟨h1, _⟩, h3⟩ := hB
      rw [h3, Bool.or_false] at e
      unfold lenB at h1
      simp only [Bool.and_eq_true, decide_eq_true_eq] at h1
      have h6 : decide ((6 : Int) < (z.length : Int)) = false := decide_eq_false (by omega)
      rw [h6, Bool.or_false, decide_eq_true_eq] at e
      rw [e] at h1
      have : (Str.ofString "").length = 0 := by decide +kernel
      omega
    rw [this]
    exact xs_ret ev_non rfl
  · simp only [Bool.or_eq_false_iff, decide_eq_false_iff_not] at e
    obtain ⟨h1, h2, h3⟩ := e
    obtain ⟨c, r, hc⟩ := empty_tl h1
    have hl : lenB z = true := by
      unfold lenB
      have : 1 ≤ z.length := by rw [len_tl, hc]; simp
      rw [decide_eq_true (by omega), decide_eq_true (by omega)]
      rfl
    have key : EvF E (tLc (iStr (tVar 0)) (gName 1) (tTest (tOp (oNotInSg) (tVar 1) (tC (.str (Str.ofString "0123456789"))))) (tVar 1) [1]) (argSl [.d (.str z)] 1) (((tl z).filter fun c => !digB c).map fun c => .str ⟨#[c]⟩) := by
      refine evF_lc (tl z) (fun c => .str ⟨#[c]⟩) (fun c => !digB c) (fun c => .str ⟨#[c]⟩) (EvI.c (ei_str (E := E) (te := tVar 0) (z := z) (δ := argSl [.d (.str z)] 1) (ev_var rfl))) (by rw [← len_tl]; omega) fun c hc => ⟨_, _, by simp, tg_name, ?_, fun _ => ev_var rfl⟩
      exact (et_test (ev_notInSg (ev_var rfl) ev_str)).is (by rw [fig_mem])
    have e2 : (((tl z).filter fun c => !digB c).map fun c => PyData.str ⟨#[c]⟩) = (((tl z).filter fun c => !digB c).map fun c => (⟨#[c]⟩ : Str)).map .str := by rw [List.map_map]; rfl
    have shp : SeqAt.shaped (.list (((tl z).filter fun c => !digB c).map fun c => PyData.str ⟨#[c]⟩)) = true := by
      rw [e2]
      refine shp_strs fun y hy x hx => ?_
      obtain ⟨c, hc, rfl⟩ := List.mem_map.mp hy
      have hx : x ∈ [c] := hx
      rw [List.mem_singleton.mp hx]
      exact hA c (List.mem_filter.mp hc).1
    refine q_when (b := !(tl z).all digB) ((et_test (ev_neD key.ev (ev_lst ed_nil (by decide)) shp shp_nil)).is ?_) (fun e => ?_) fun e => ?_
    · rw [eqv_nil]
      congr 1
      by_cases h : (tl z).all digB = true
      · rw [h]
        refine decide_eq_true ?_
        rw [List.map_eq_nil_iff, List.filter_eq_nil_iff]
        intro c hc
        have := List.all_eq_true.mp h c hc
        simp [this]
      · have h' : (tl z).all digB = false := by simpa using h
        rw [h']
        refine decide_eq_false fun q => h ?_
        rw [List.map_eq_nil_iff, List.filter_eq_nil_iff] at q
        refine List.all_eq_true.mpr fun c hc => ?_
        have := q c hc
        simpa using this
    · have : numO z = none := by
        unfold numO
        refine if_neg fun hB => ?_
        unfold numB at hB
        simp only [Bool.and_eq_true] at hB
        rw [hB.1.2] at e
        cases e
      rw [this]
      exact xs_ret ev_non rfl
    · have ha : (tl z).all digB = true := by simpa using e
      have hB : numB z = true := by
        unfold numB
        rw [hl, ha, h3]
        rfl
      have : numO z = some (numV z) := if_pos hB
      rw [this]
      have hd : NumText.AllDigits z.cps.toList := fun x hx => by
        have := List.all_eq_true.mp ha x hx
        unfold digB at this
        simpa using this
      have hn : z.cps.toList ≠ [] := fun e => by
        have : tl z = [] := e
        rw [hc] at this; cases this
      exact xs_ret (ev_intS (ev_var rfl) (intText_digits hd hn (by omega)) (by omega)) rfl
theorem evc_law_number {z : Str} (ha : Ev E ta δ (.str z)) (hz : z.length ≤ 1000000) (hA : Asc z) : Ev E (tCall (sp_law_number E.K) [] XE (tCons ta tNil)) δ (optD (numO z)) := ev_call (ea_d ha ea_nil) ⟨z, rfl, hz, hA, rfl⟩
/-! ### the law's own reading -/
theorem pair_ok {ps : List Str} (h : (!decide ((ps.length : Int) = 2) || (ps.map numO).any Option.isNone) = false) : ∃ a b, ps = [a, b] ∧ numO a = some (numV a) ∧ numO b = some (numV b) ∧ pairV ps = some (numV a, numV b) := by
  simp only [Bool.or_eq_false_iff, Bool.not_eq_false', decide_eq_true_eq] at h
  obtain ⟨h1, h2⟩ := h
  match ps, (show ps.length = 2 by omega) with
  | [a, b], _ =>
    have ha : numB a = true := by
      by_cases q : numB a = true
      · exact q
      · have : numO a = none := if_neg q
        simp [this] at h2
    have hb : numB b = true := by
      by_cases q : numB b = true
      · exact q
      · have : numO b = none := if_neg q
        simp [this] at h2
    exact ⟨a, b, rfl, if_pos ha, if_pos hb, if_pos ⟨ha, hb⟩⟩
theorem pair_no {ps : List Str} (h : (!decide ((ps.length : Int) = 2) || (ps.map numO).any Option.isNone) = true) : pairV ps = none := by
  cases e : pairV ps with
  | none => rfl
  | some s =>
    obtain ⟨a, b, rfl, ha, hb, _⟩ := two_of e
    have h1 : numO a = some (numV a) := if_pos ha
    have h2 : numO b = some (numV b) := if_pos hb
    simp [h1, h2] at h
theorem xs_law_read (z : Str) (hz : z.length ≤ 20000) (hA : Asc z) : Xs E (t_law_read E.K w) (argSl [.d (.str z)] 4) fun o => o = .rt (optS (readV z)) := by
  by_cases h0 : z = Str.ofString ""
  · have : readV z = some [] := by unfold readV; rw [if_pos h0]
    rw [this]
    exact q_when (b := true) ((et_test (ev_eqS (ev_var rfl) ev_str)).is (by simp [h0])) (fun _ => xs_ret (d := stonesD []) (ev_lst ed_nil (by decide)) rfl) fun z => nomatch z
  · have hr : readV z = if (Txt.split z blankS).length ≤ 60 then allV (Txt.split z blankS) else none := by unfold readV; rw [if_neg h0]
    refine q_when (b := false) ((et_test (ev_eqS (ev_var rfl) ev_str)).is (by simp [h0])) (fun z => nomatch z) fun _ => ?_
    refine q_asgF (evF_lst ed_nil (by decide)) ?_
    have hcount := (blank_count z).1
    have hlen : ∀ p ∈ Txt.split z blankS, p.length ≤ 20000 := fun p hp => Nat.le_trans (blank_len hp) hz
    have hasc : ∀ p ∈ Txt.split z blankS, Asc p := fun p hp => asc_blank hA hp
    have hsp : EvF E (tM1 oSplit (tVar 0) (tC (.str (Str.ofString " ")))) [.d (.str z), .ow [], .no, .no, .no] ((Txt.split z blankS).map .str) := evF_split (a := z) (b := blankS) (ev_var rfl) ev_str (by decide +kernel) (by omega)
    generalize Txt.split z blankS = ws at hr hcount hlen hasc hsp
    refine xs_seq (xs_for (ei_list (xs := ws.map .str) hsp.ev) (fun i δ => ∃ s2 s3, δ = [.d (.str z), .ow ((ws.take i).map fun w => stD ((wordV w).getD (0, 0))), s2, s3, .no] ∧ ∀ w ∈ ws.take i, ∃ s, wordV w = some s) ⟨_, _, rfl, fun _ h => absurd h (by simp)⟩ ?_ ?_)
    · rintro i x δ' hx ⟨s2, s3, rfl, hg⟩
      obtain ⟨v, hv, rfl⟩ : ∃ v, ws[i]? = some v ∧ x = .str v := by
        rw [List.getElem?_map] at hx
        cases q : ws[i]? with
        | none => rw [q] at hx; cases hx
        | some n => rw [q] at hx; exact ⟨n, rfl, (Option.some.inj hx).symm⟩
      have hvm := List.mem_of_getElem? hv
      have vl := hlen v hvm
      have va := hasc v hvm
      have tk : ws.take (i + 1) = ws.take i ++ [v] := by rw [List.take_succ, hv]; rfl
      refine ⟨_, _, tg_name, ?_⟩
      have pl : ∀ p ∈ Txt.split v dashS, p.length ≤ 20000 := fun p hp => Nat.le_trans (dash_len hp) vl
      have pa : ∀ p ∈ Txt.split v dashS, Asc p := fun p hp => asc_dash va hp
      have pc := dash_count v
      have key : EvF E (tLc (iList E.K (tM1 oSplit (tVar 2) (tC (.str (Str.ofString "-"))))) (gName 4) tYes (tCall (sp_law_number E.K) [] E0 (tCons (tVar 4) tNil)) [4]) [.d (.str z), .ow ((ws.take i).map fun w => stD ((wordV w).getD (0, 0))), .d (.str v), s3, .no] ((Txt.split v dashS).map fun p => optD (numO p)) := by
        refine evF_map (Txt.split v dashS) PyData.str (fun p => optD (numO p)) (EvI.c (ei_list (xs := (Txt.split v dashS).map .str) (evF_split (a := v) (b := dashS) (ev_var rfl) ev_str (by decide +kernel) (by omega)).ev)) (by omega) fun p hp => ⟨_, _, by simp, tg_name, ?_⟩
        exact evc_law_number (ev_var rfl) (by have := pl p hp; omega) (pa p hp)
      have e : ((Txt.split v dashS).map fun p => optD (numO p)) = ((Txt.split v dashS).map numO).map optD := by rw [List.map_map]; rfl
      rw [e] at key
      refine q_asg key.ev ?_
      have hw : wordV v = pairV (Txt.split v dashS) := rfl
      generalize Txt.split v dashS = ps at hw pc
      refine q_when (b := !decide ((ps.length : Int) = 2) || (ps.map numO).any Option.isNone) (et_or ((et_test (ev_neI (ev_lenL (xs := (ps.map numO).map optD) (ev_var rfl)) ev_int)).is (by rw [List.length_map, List.length_map])) fun _ => et_test (ev_noneIn (ev_var rfl))) (fun e => ?_) fun e => ?_
      · have hn : wordV v = none := hw.trans (pair_no e)
        have : readV z = none := by
          rw [hr]
          split
          · exact allV_bad hvm hn
          · rfl
        rw [this]
        exact xs_ret ev_non rfl
      · obtain ⟨a, b, rfl, ha, hb, hp⟩ := pair_ok e
        have hs : wordV v = some (numV a, numV b) := hw.trans hp
        refine xs_drop (evM_append (n := 1) (d := stD (numV a, numV b)) rfl (ev_tup (ds := [.int (numV a), .int (numV b)]) (ed_cons (ev_ixL (xs := [optD (numO a), optD (numO b)]) (ev_var rfl) ev_int (by rw [ha]; exact atI_0)) (ed_cons (ev_ixL (xs := [optD (numO a), optD (numO b)]) (ev_var rfl) ev_int (by rw [hb]; exact atI_1)) ed_nil)) (by show 2 ≤ 100000; decide)) (by rw [List.length_map, List.length_take]; omega)) ⟨.d (.str v), .d (.list ([a, b].map numO |>.map optD)), ?_, fun w hw => ?_⟩
        · have e3 : ([v].map fun w => stD ((wordV w).getD (0, 0))) = [stD (numV a, numV b)] := by rw [List.map_cons, hs]; rfl
          rw [tk, List.map_append, e3]
          rfl
        · rw [tk] at hw
          rcases List.mem_append.mp hw with q | q
          · exact hg w q
          · rw [List.mem_singleton.mp q]; exact ⟨_, hs⟩
    · rintro δ' ⟨s2, s3, rfl, hg⟩
      rw [List.length_map, List.take_length] at hg ⊢
      have hall := allV_some hg
      show Xs E _ [.d (.str z), .ow (ws.map fun w => stD ((wordV w).getD (0, 0))), s2, s3, .no] _
      refine q_when (b := decide ((60 : Int) < (ws.length : Int))) ((et_test (ev_gt (ev_lenO (xs := ws.map fun w => stD ((wordV w).getD (0, 0))) rfl) ev_int)).is (by rw [List.length_map])) (fun e => ?_) fun e => ?_
      · have e := of_decide_eq_true e
        have : readV z = none := by rw [hr, if_neg (by omega)]
        rw [this]
        exact xs_ret ev_non rfl
      · have e := of_decide_eq_false e
        have : readV z = some (ws.map fun w => (wordV w).getD (0, 0)) := by rw [hr, if_pos (by omega), hall]
        rw [this]
        refine xs_share (i := 1) rfl ?_
        refine xs_ret (d := stonesD (ws.map fun w => (wordV w).getD (0, 0))) ?_ rfl
        have e2 : stonesD (ws.map fun w => (wordV w).getD (0, 0)) = .list (ws.map fun w => stD ((wordV w).getD (0, 0))) := by
          unfold stonesD
          rw [List.map_map]
          rfl
        rw [e2]
        exact ev_var rfl
end
section
variable {E : Ent} {δ δ' : List Sl} {ta tb te tc : TE} {d x y : D} {w : World} {XE W : XK} {xa : XA} {Φ : Out → Prop} {u : TS} {mg : Str → Option Value}
theorem evF_rep11 {xs : List D} {k : Int} (ha : Ev E ta δ (.list xs)) (hb : Ev E tb δ (.int k)) (h0 : 0 ≤ k ∧ k ≤ 1000) (hz : xs.length * k.toNat ≤ 1000000) : EvF E (tOp rRep ta tb) δ (List.replicate k.toNat xs).flatten := fun σ G H Q s c =>
  ha σ G H _ s fun x G1 H1 g1 ⟨a, vs, e1, e2, e3⟩ => hb σ G1 H1 _ (s.grow g1) fun y G2 H2 g2 r => by
    have r : y = .int k := r
    subst e1 r
    refine ⟨a, k, vs, rfl, rfl, g2.i _ _ (g2.g _ _ e2), by omega, by omega, by rw [e3.len]; exact Nat.le_trans hz (by decide), fun p hp => ?_⟩
    have g := g1.trans g2
    have key : ∀ n : Nat, RpA G2 (List.replicate n xs).flatten (List.replicate n vs).flatten := fun n => by
      induction n with
      | zero => rfl
      | succ n ih => rw [List.replicate_succ, List.replicate_succ, List.flatten_cons, List.flatten_cons]; exact (RpA.mono g2.g _ _ e3).append ih
    exact c p _ G2 _ (g.trans (Gr.side g.i (same_new hp))) (g.h.free hp) (g.i.free hp) upd_same (key _)
/-! ### the changes -/
def odd1 : List Str := [Str.ofString "", Str.ofString "-", Str.ofString "1-", Str.ofString "-1", Str.ofString "1", Str.ofString "1-2-3", Str.ofString "01-2", Str.ofString "1-02", Str.ofString "00-0", Str.ofString "1000000-1", Str.ofString "1-1000000", Str.ofString "999999-0", Str.ofString "a-1"]
def odd2 : List Str := [Str.ofString "1--2", Str.ofString "+1-2", Str.ofString "1 -2", Str.ofString "1- 2", Str.ofString "1_0-2", Str.ofString "0-0", Str.ofString "|", Str.ofString "3-4|", Str.ofString "1.0-2", Str.ofString "--", Str.ofString "1-2 ", Str.ofString " 1-2", Str.ofString "x"]
theorem odd_ok : ∀ y ∈ odd1 ++ odd2, y.length ≤ 9 ∧ Asc y := fun y hy => by
  have h : (odd1 ++ odd2).all (fun y => decide (y.length ≤ 9) && (tl y).all fun c => decide (c < 128)) = true := by decide +kernel
  have := List.all_eq_true.mp h y hy
  rw [Bool.and_eq_true, decide_eq_true_eq] at this
  exact ⟨this.1, fun c hc => of_decide_eq_true (List.all_eq_true.mp this.2 c hc)⟩
def sgS : Str := Str.ofString " 0123456789-|+a"
theorem sg_len : sgS.cps.toList.length = 15 := by decide +kernel
theorem sg_asc : Asc sgS := asc_ofString (by decide +kernel)
theorem mod_nat11 {i : Int} {n : Nat} (hn : 0 < n) : ∃ j : Nat, i % (n : Int) = (j : Int) ∧ j < n := by
  have h1 : 0 ≤ i % (n : Int) := Int.emod_nonneg _ (by omega)
  have h2 : i % (n : Int) < (n : Int) := Int.emod_lt_of_pos _ (by omega)
  exact ⟨(i % (n : Int)).toNat, (Int.toNat_of_nonneg h1).symm, by omega⟩
theorem ev_sign {i : Int} (hi : Ev E ta δ (.int i)) : ∃ y : Str, y.length = 1 ∧ Asc y ∧ Ev E (tOp (rIxS) (tC (.str (Str.ofString " 0123456789-|+a"))) (tOp (rI (fun _ j => 0 < j) fun i j => .int (i % j)) ta (tC (.int 15)))) δ (.str y) := by
  obtain ⟨j, hj, hj2⟩ := mod_nat11 (i := i) (n := 15) (by decide)
  have hj : i % 15 = (j : Int) := hj
  refine ⟨⟨#[sgS.cps.toList[j]'(by rw [sg_len]; exact hj2)]⟩, rfl, fun c hc => ?_, ?_⟩
  · have hc : c ∈ [sgS.cps.toList[j]'(by rw [sg_len]; exact hj2)] := hc
    rw [List.mem_singleton.mp hc]
    exact sg_asc _ (List.getElem_mem _)
  · exact ev_ixSg (z := sgS) ev_str (ev_mod hi ev_int (by decide)) (by rw [len_tl]; show sgS.cps.toList.length ≤ _; rw [sg_len]; decide) (by rw [hj]; exact atI_nat (List.getElem?_eq_getElem _))
theorem xs_law_bent (as : List Sl) (hP : Pre_bent as) : Xs E (t_law_bent E.K w) (argSl as (6 - as.length)) fun o => ∃ d, R_bent as d ∧ o = .rt d := by
  obtain ⟨z, c, rfl, hz, hA, hc0⟩ := hP
  have fin : ∀ z' : Str, Asc z' → z'.length ≤ 2 * z.length + 20 → ∃ d, R_bent [.d (.str z), .d (.int c)] d ∧ Out.rt (.str z') = .rt d := fun z' h1 h2 => ⟨_, fun z2 c2 e => by
    cases e
    exact ⟨z', rfl, h1, h2⟩, rfl⟩
  have l20 : ∀ (ds : List D), ds.length ≤ 20 → ds.length ≤ 100000 := fun ds h => by omega
  refine q_asg (d := .list (odd1.map .str)) (ev_lst (ds := odd1.map .str) (ed_cons ev_str (ed_cons ev_str (ed_cons ev_str (ed_cons ev_str (ed_cons ev_str (ed_cons ev_str (ed_cons ev_str (ed_cons ev_str (ed_cons ev_str (ed_cons ev_str (ed_cons ev_str (ed_cons ev_str (ed_cons ev_str ed_nil))))))))))))) (l20 _ (by decide))) ?_
  refine q_asg (d := .list (odd1.map .str ++ odd2.map .str)) (evF_cat (ev_var rfl) (ev_lst (ds := odd2.map .str) (ed_cons ev_str (ed_cons ev_str (ed_cons ev_str (ed_cons ev_str (ed_cons ev_str (ed_cons ev_str (ed_cons ev_str (ed_cons ev_str (ed_cons ev_str (ed_cons ev_str (ed_cons ev_str (ed_cons ev_str (ed_cons ev_str ed_nil))))))))))))) (l20 _ (by decide))) (by decide)).ev ?_
  rw [← List.map_append]
  refine q_asg (d := .int (c / 16 % ((z.length : Int) + 1))) (ev_mod (ev_fdiv (ev_var rfl) ev_int ⟨by decide, by decide⟩) (ev_add (ev_lenS (ev_var rfl) (by omega)) ev_int) (by omega)) ?_
  obtain ⟨at_, hat, hat2⟩ := mod_nat11 (i := c / 16) (n := z.length + 1) (by omega)
  have hat : c / 16 % ((z.length : Int) + 1) = (at_ : Int) := hat
  rw [hat]
  refine q_asg (d := .int (c / 16000)) (ev_fdiv (ev_var rfl) ev_int ⟨by decide, by decide⟩) ?_
  have m16 : ∀ (δ : List Sl) (k : Int), δ[1]? = some (.d (.int c)) → Et E (tTest (tOp (rI0 fun i j => .bl (decide (i < j))) (tOp (rI (fun _ j => 0 < j) fun i j => .int (i % j)) (tVar 1) (tC (.int 16))) (tC (.int k)))) δ (decide (c % 16 < k)) := fun δ k h => et_test (ev_lt (ev_mod (ev_var h) ev_int (by decide)) ev_int)
  have hcut : ∀ lo hi, (cutS z lo hi).length ≤ z.length := len_cut z
  refine q_when (m16 _ 5 rfl) (fun _ => ?_) fun _ => ?_
  · obtain ⟨y, y1, y2, hy⟩ := ev_sign (E := E) (ta := tVar 4) (i := c / 16000) (δ := [.d (.str z), .d (.int c), .d (.list ((odd1 ++ odd2).map .str)), .d (.int (at_ : Int)), .d (.int (c / 16000)), .no]) (ev_var rfl)
    have h1 := hcut none (some (at_ : Int))
    have h2 := hcut (some (at_ : Int)) none
    refine xs_ret (ev_catX (ev_catX (ev_slS (lo := none) (hi := some (at_ : Int)) (ev_var rfl) eo_no (eo_i (ev_var rfl)) (by omega)) hy (by omega)) (ev_slS (lo := some (at_ : Int)) (hi := none) (ev_var rfl) (eo_i (ev_var rfl)) eo_no (by omega)) (by rw [len_append]; omega)) (fin _ (asc_append (asc_append (asc_cut hA _ _) y2) (asc_cut hA _ _)) (by rw [len_append, len_append]; omega))
  refine q_when (m16 _ 9 rfl) (fun _ => ?_) fun _ => ?_
  · have h1 := hcut none (some (at_ : Int))
    have h2 := hcut (some ((at_ : Int) + 1)) none
    refine xs_ret (ev_catX (ev_slS (lo := none) (hi := some (at_ : Int)) (ev_var rfl) eo_no (eo_i (ev_var rfl)) (by omega)) (ev_slS (lo := some ((at_ : Int) + 1)) (hi := none) (ev_var rfl) (eo_i (ev_add (ev_var rfl) ev_int)) eo_no (by omega)) (by omega)) (fin _ (asc_append (asc_cut hA _ _) (asc_cut hA _ _)) (by rw [len_append]; omega))
  refine q_when (m16 _ 12 rfl) (fun _ => ?_) fun _ => ?_
  · obtain ⟨y, y1, y2, hy⟩ := ev_sign (E := E) (ta := tVar 4) (i := c / 16000) (δ := [.d (.str z), .d (.int c), .d (.list ((odd1 ++ odd2).map .str)), .d (.int (at_ : Int)), .d (.int (c / 16000)), .no]) (ev_var rfl)
    have h1 := hcut none (some (at_ : Int))
    have h2 := hcut (some ((at_ : Int) + 1)) none
    refine xs_ret (ev_catX (ev_catX (ev_slS (lo := none) (hi := some (at_ : Int)) (ev_var rfl) eo_no (eo_i (ev_var rfl)) (by omega)) hy (by omega)) (ev_slS (lo := some ((at_ : Int) + 1)) (hi := none) (ev_var rfl) (eo_i (ev_add (ev_var rfl) ev_int)) eo_no (by omega)) (by rw [len_append]; omega)) (fin _ (asc_append (asc_append (asc_cut hA _ _) y2) (asc_cut hA _ _)) (by rw [len_append, len_append]; omega))
  · have hsp : EvF E (tM1 oSplit (tVar 0) (tC (.str (Str.ofString " ")))) [.d (.str z), .d (.int c), .d (.list ((odd1 ++ odd2).map .str)), .d (.int (at_ : Int)), .d (.int (c / 16000)), .no] ((Txt.split z blankS).map .str) := evF_split (a := z) (b := blankS) (ev_var rfl) ev_str (by decide +kernel) (by omega)
    refine q_asg hsp.ev ?_
    obtain ⟨b1, b2⟩ := blank_count z
    have hasc : ∀ p ∈ Txt.split z blankS, Asc p := fun p hp => asc_blank hA hp
    generalize Txt.split z blankS = ws at b1 b2 hasc
    refine q_asg (d := .int (c / 16000 / 40 % ((ws.length : Int) + 1))) ((ev_mod (ev_fdiv (ev_var rfl) ev_int ⟨by decide, by decide⟩) (ev_add (ev_lenL (xs := ws.map .str) (ev_var rfl)) ev_int) (by omega)).is (by rw [List.length_map])) ?_
    obtain ⟨m, hm, hm2⟩ := mod_nat11 (i := c / 16000 / 40) (n := ws.length + 1) (by omega)
    have hm : c / 16000 / 40 % ((ws.length : Int) + 1) = (m : Int) := hm
    rw [hm]
    obtain ⟨j, hj, hj26⟩ := mod_nat11 (i := c / 16000) (n := 26) (by decide)
    have hj : c / 16000 % 26 = (j : Int) := hj
    obtain ⟨y, hy⟩ : ∃ y, (odd1 ++ odd2)[j]? = some y := ⟨_, List.getElem?_eq_getElem (by exact hj26)⟩
    obtain ⟨o1, o2⟩ := odd_ok y (List.mem_of_getElem? hy)
    have e1 : (ws.take m ++ [y] ++ ws.drop m).map PyData.str = (cutD (ws.map PyData.str) none (some (m : Int)) ++ [.str y]) ++ cutD (ws.map PyData.str) (some (m : Int)) none := by
      rw [cut_to, cut_from, List.map_append, List.map_append, List.map_take, List.map_drop]
      rfl
    have hsum : ((ws.take m ++ [y] ++ ws.drop m).map (·.length)).sum ≤ z.length + 9 := by
      have q : (ws.map (·.length)).sum = ((ws.take m).map (·.length)).sum + ((ws.drop m).map (·.length)).sum := by
        rw [← List.sum_append, ← List.map_append, List.take_append_drop]
      rw [List.map_append, List.map_append, List.sum_append, List.sum_append, List.map_cons, List.map_nil, List.sum_cons, List.sum_nil]
      omega
    have hcnt : (ws.take m ++ [y] ++ ws.drop m).length = ws.length + 1 := by
      rw [List.length_append, List.length_append, List.length_take, List.length_drop]
      show _ + 1 + _ = _
      omega
    have hb1 : blankS.length = 1 := by decide +kernel
    have cat := evF_cat (E := E) (δ := [.d (.str z), .d (.int c), .d (.list ((odd1 ++ odd2).map .str)), .d (.int (m : Int)), .d (.int (c / 16000)), .d (.list (ws.map .str))]) (ta := (tOp (rCat) (tSl (rSlL E.K) (tVar 5) tNoPart (tPart (tVar 3))) (tLst (tCons (tOp (rIxL E.K) (tVar 2) (tOp (rI (fun _ j => 0 < j) fun i j => .int (i % j)) (tVar 4) (tC (.int 26)))) tNil)))) (tb := (tSl (rSlL E.K) (tVar 5) (tPart (tVar 3)) tNoPart))
      (xs := cutD (ws.map PyData.str) none (some (m : Int)) ++ [.str y]) (ys := cutD (ws.map PyData.str) (some (m : Int)) none)
      (evF_cat (evF_slL (ev_var rfl) eo_no (eo_i (ev_var rfl))).ev (ev_lst (ds := [.str y]) (ed_cons (ev_ixL (xs := (odd1 ++ odd2).map .str) (ev_var rfl) (ev_mod (ev_var rfl) ev_int (by decide)) (by rw [hj]; exact atI_nat (by rw [List.getElem?_map, hy]; rfl))) ed_nil) (by show 1 ≤ 100000; decide)) (by rw [cut_to, List.length_take, List.length_map]; show _ + 1 ≤ _; omega)).ev
      (evF_slL (ev_var rfl) (eo_i (ev_var rfl)) eo_no).ev (by rw [cut_to, cut_from, List.length_append, List.length_take, List.length_drop, List.length_map]; show _ + 1 + _ ≤ _; omega)
    rw [← e1] at cat
    refine xs_ret (ev_join (a := blankS) (ys := ws.take m ++ [y] ++ ws.drop m) ev_str cat.ev (by rw [hb1, hcnt]; omega)) (fin _ (asc_join asc_blankS fun p hp => ?_) ?_)
    · rcases List.mem_append.mp hp with h | h
      · rcases List.mem_append.mp h with h | h
        · exact hasc p (List.mem_of_mem_take h)
        · rw [List.mem_singleton.mp h]; exact o2
      · exact hasc p (List.mem_of_mem_drop h)
    · have := join_len blankS (ws.take m ++ [y] ++ ws.drop m)
      rw [hb1, hcnt] at this
      omega
/-! ### told, and the law -/
theorem xs_told11 (T : XT E.K mg xa) (z : Str) (hz : z.length ≤ 1000000) : Xs E (t_told11 E.K w xa) (argSl [.d (.str z)] 2) fun o => o = .rt (toldD (readV z)) := by
  refine q_asg (d := .none) ev_non ?_
  have a1 : Ea E (tCons (tVar 0) tNil) [.d (.str z), .d .none, .no] [.d (.str z)] := ea_d (ev_var rfl) ea_nil
  cases e : readV z with
  | some ss => exact xs_seq (xs_tryRet (R := R_readX) (C := C_readX xa) a1 ⟨z, ss, rfl, hz, e, rfl⟩ rfl)
  | none =>
    refine xs_seq (xs_tryX (R := R_readX) (C := C_readX xa) (cls := .ref (xa .NoText)) (fun W => .inr (.inr rfl)) a1 ⟨z, rfl, hz, e, rfl⟩ ((T.exm .NoText .StoneError).trans rfl) (by show 2 < 3; decide) ?_)
    have h1 : ([Sl.d (.str z), exS (.ref (xa .NoText)), .no])[1]? = some (exS (.ref (xa .NoText))) := rfl
    have hany := T.any .NoText [Xn.NoLaying, Xn.NoStone, Xn.NoStones]
    refine q_when (b := false) ((et_or (et_not (et_B (ev_isX h1 (T.ec .NoText rfl) (.own _) (T.one .NoText .NoText)))) fun _ => et_B (ev_isXT h1 (T.ec .NoText rfl) (by show 3 ≤ 1000; decide) (cls_refs xa _) hany)).is rfl) (fun z => nomatch z) fun _ => ?_
    exact xs_ret ev_str rfl
theorem okA_st11 {c : List (Int × Int)} (h : c.length ≤ 1000) : okA 2 (stonesD c) = true := by
  show (decide ((c.map stD).length ≤ 1000) && (c.map stD).all (okA 1)) = true
  rw [List.length_map, decide_eq_true h, Bool.true_and, List.all_map]
  exact List.all_eq_true.mpr fun s _ => rfl
def R_law (as : List Sl) (d : D) : Prop := ∃ ns, as = [.s ns] ∧ ns.length ≤ 63 ∧ d = .bool true
theorem rep_text (n : Nat) : Txt.join blankS (List.replicate n (Str.ofString "1-2")) = textF (List.replicate n (1, 2)) := by
  have : stS (1, 2) = Str.ofString "1-2" := by decide +kernel
  unfold textF
  rw [List.map_replicate, this]
theorem ok_12 (n : Nat) : ∀ s ∈ List.replicate n ((1 : Int), (2 : Int)), okN s.1 ∧ okN s.2 := fun s hs => by
  rw [(List.mem_replicate.mp hs).2]
  exact ⟨⟨by decide, by decide⟩, by decide, by decide⟩
theorem text_more (n : Nat) : textF (List.replicate (n + 1) (1, 2)) ++ Str.ofString " 1-2" = textF (List.replicate (n + 2) (1, 2)) := by
  refine ext_tl ?_
  have h12 : tl (Str.ofString " 1-2") = [32] ++ tl (stS (1, 2)) := by decide +kernel
  have key : ∀ n : Nat, joinL [32] (List.replicate (n + 2) (tl (stS (1, 2)))) = joinL [32] (List.replicate (n + 1) (tl (stS (1, 2)))) ++ ([32] ++ tl (stS (1, 2))) := by
    intro n
    induction n with
    | zero => rfl
    | succ n ih =>
      have e : ∀ k : Nat, joinL [32] (List.replicate (k + 2) (tl (stS (1, 2)))) = tl (stS (1, 2)) ++ ([32] ++ joinL [32] (List.replicate (k + 1) (tl (stS (1, 2))))) := fun k => rfl
      rw [e (n + 1)]
      conv => lhs; rw [ih]
      rw [e n]
      simp only [List.append_assoc]
  rw [tl_append, h12]
  unfold textF
  rw [join_eq, join_eq, tl_join, tl_join, tl_blank, List.map_replicate, List.map_replicate, List.map_replicate, List.map_replicate]
  exact (key n).symm
theorem xs_law11 (T : XT E.K mg xa) (ns : List Int) (hz : ns.length ≤ 63) : Xs E (t_law11 E.K w xa) (argSl [.s ns] 7) fun o => o = .rt (.bool true) := by
  have ok := stonesF_ok ns
  have sl := evF_slL (E := E) (δ := argSl [.s ns] 7) (tl := tNoPart) (th := tPart (tC (.int 59))) (lo := none) (hi := some ((59 : Nat) : Int)) (evc_stones (XE := E0) (i := 0) rfl hz) eo_no (eo_i ev_int)
  rw [cut_to, ← List.map_take] at sl
  refine q_asg (d := stonesD ((stonesF ns).take 59)) sl.ev ?_
  have hmem : ∀ s ∈ (stonesF ns).take 59, okN s.1 ∧ okN s.2 := fun s hs => ok.mem s (List.mem_of_mem_take hs)
  have hlen : ((stonesF ns).take 59).length ≤ 59 := by rw [List.length_take]; omega
  generalize (stonesF ns).take 59 = ss at hmem hlen
  have key : EvF E (tLc (iList E.K (tVar 1)) (gName 7) tYes (tOp (oCatS) (tOp (oCatS) (tCB (cStr) (tCons (tOp (rIxT E.K) (tVar 7) (tC (.int 0))) tNil)) (tC (.str (Str.ofString "-")))) (tCB (cStr) (tCons (tOp (rIxT E.K) (tVar 7) (tC (.int 1))) tNil))) [7]) [.s ns, .d (stonesD ss), .no, .no, .no, .no, .no, .no] (ss.map fun s => .str (stS s)) := by
    refine evF_map ss stD (fun s => .str (stS s)) (EvI.c (ei_list (ev_var rfl))) (by omega) fun s hm => ⟨_, _, by simp, tg_name, ?_⟩
    have h := hmem s hm
    have l1 := num_len h.1
    have l2 := num_len h.2
    have ld : dashS.length = 1 := by decide +kernel
    have lg : ∀ {i : Int}, okN i → i.natAbs.log2 < 1920 := fun {i} h => by
      have h1 : i.natAbs < 2 ^ 20 := by
        obtain ⟨a, b⟩ := h
        show i.natAbs < 1048576
        omega
      by_cases z : i.natAbs = 0
      · rw [z]; decide
      · have := (Nat.log2_lt z).mpr h1
        omega
    exact ev_catX (a := numS s.1 ++ dashS) (b := numS s.2) (ev_catX (a := numS s.1) (b := dashS) (ev_strI (ev_st0 (s := s) (ev_var rfl)) (lg h.1)) ev_str (by omega)) (ev_strI (ev_st1 (s := s) (ev_var rfl)) (lg h.2)) (by rw [len_append]; omega)
  have e : (ss.map fun s => PyData.str (stS s)) = (ss.map stS).map .str := by rw [List.map_map]; rfl
  rw [e] at key
  have tln := text_len hmem
  refine q_asg (d := .str (textF ss)) (ev_join (a := blankS) (ys := ss.map stS) ev_str key.ev (by omega)) ?_
  have hl0 : (textF ss).length ≤ 826 := by
    have := join_len blankS (ss.map stS)
    have : (textF ss).length ≤ _ := this
    omega
  have hA0 : Asc (textF ss) := asc_join asc_blankS fun y hy => by
    obtain ⟨s, hs, rfl⟩ := List.mem_map.mp hy
    exact asc_st (hmem s hs)
  generalize textF ss = z0 at hl0 hA0
  have hc2 : 0 ≤ cellF ns 2 % 3 := Int.emod_nonneg _ (by decide)
  have hc3 : cellF ns 2 % 3 < 3 := Int.emod_lt_of_pos _ (by decide)
  refine xs_seq (xs_for (ei_range1 (n := 1 + cellF ns 2 % 3) (ed_cons (ev_add ev_int (ev_mod (evc_cell rfl hz ev_int) ev_int (by decide))) ed_nil) ⟨by omega, by omega⟩) (fun i δ => ∃ z s3, δ = [.s ns, .d (stonesD ss), .d (.str z), s3, .no, .no, .no, .no] ∧ Asc z ∧ z.length + 20 ≤ 850 * 2 ^ i) ⟨z0, _, rfl, hA0, by omega⟩ ?_ ?_)
  · rintro i x δ' hx ⟨z, s3, rfl, hA, hl⟩
    have hi := (List.getElem?_eq_some_iff.mp hx).1
    rw [intsD_len] at hi
    rw [intsD_get hi, Option.some_inj] at hx
    subst hx
    have hi : i < 3 := by omega
    have hl2 : z.length ≤ 3500 := by
      have : 2 ^ i ≤ 2 ^ 2 := Nat.pow_le_pow_right (by decide) (by omega)
      omega
    refine ⟨_, _, tg_name, ?_⟩
    refine xs_asgX (as := [.d (.str z), .d (.int (cellF ns (300 + (0 + (i : Int)))))]) (ea_d (ev_var rfl) (ea_d (evc_cell rfl hz (ev_add ev_int (ev_var rfl))) ea_nil)) ⟨z, _, rfl, by omega, hA, (cellF_b ns _).1⟩ fun d hd => ?_
    obtain ⟨z', rfl, hA', hl'⟩ := hd z _ rfl
    refine ⟨z', _, rfl, hA', ?_⟩
    rw [Nat.pow_succ]
    omega
  · rintro δ' ⟨z, s3, rfl, hA, hl⟩
    have hl : z.length ≤ 7000 := by
      rw [intsD_len] at hl
      have : 2 ^ (1 + cellF ns 2 % 3).toNat ≤ 2 ^ 3 := Nat.pow_le_pow_right (by decide) (by omega)
      omega
    refine q_asg (ev_call (ea_d (ev_var rfl) ea_nil) (R := R_law_read) ⟨z, rfl, by omega, hA, rfl⟩) ?_
    refine xs_seq (xs_for (ei_range1 (n := 2) (ed_cons ev_int ed_nil) (by decide)) (fun i δ => ∃ s3 s5, δ = [.s ns, .d (stonesD ss), .d (.str z), s3, .d (optS (readV z)), s5, .no, .no]) ⟨_, _, rfl⟩ ?_ ?_)
    · rintro i x δ' hx ⟨s3, s5, rfl⟩
      have hi := (List.getElem?_eq_some_iff.mp hx).1
      rw [intsD_len] at hi
      rw [intsD_get hi, Option.some_inj] at hx
      subst hx
      refine ⟨_, _, tg_name, ?_⟩
      refine q_asg (ev_call (ea_d (ev_var rfl) ea_nil) (R := R_told11) ⟨z, rfl, by omega, rfl⟩) ?_
      have shn : SeqAt.shaped (.str (Str.ofString "none") : D) = true := by decide +kernel
      cases hr : readV z with
      | none =>
        exact xs_if (b := false) ((et_or (et_and (et_test (ev_isN (d := .none) (ev_var rfl))) fun _ => et_test (ev_neD (d1 := .str (Str.ofString "none")) (d2 := .str (Str.ofString "none")) (ev_var rfl) ev_str shn shn)) fun _ => et_and (b := false) (et_test (ev_notN (d := .none) (ev_var rfl))) fun z => nomatch z).is (by rw [SeqAt.eqv_refl _ (shp_lay shn)]; rfl)) (fun z => nomatch z) fun _ => xs_next ⟨_, _, rfl⟩
      | some rs =>
        have hrl : rs.length ≤ 1000 := by
          unfold readV at hr
          split at hr
          · cases hr; decide
          · split at hr
            · have := allV_len hr; omega
            · cases hr
        exact xs_if (b := false) ((et_or (et_and (b := false) (et_test (ev_isN (d := stonesD rs) (ev_var rfl))) fun z => nomatch z) fun _ => et_and (et_test (ev_notN (d := stonesD rs) (ev_var rfl))) fun _ => et_not (et_B (evc_alike (n := 2) (x := stonesD rs) (ev_var rfl) (ev_var rfl) (okA_st11 hrl)))).is rfl) (fun z => nomatch z) fun _ => xs_next ⟨_, _, rfl⟩
    · rintro δ' ⟨s3, s5, rfl⟩
      have hb1 : blankS.length = 1 := by decide +kernel
      have h3 : (Str.ofString "1-2").length = 3 := by decide +kernel
      have rep : ∀ n : Nat, (List.replicate n [PyData.str (Str.ofString "1-2")]).flatten = (List.replicate n (Str.ofString "1-2")).map .str := fun n => by
        induction n with
        | zero => rfl
        | succ n ih => rw [List.replicate_succ, List.flatten_cons, ih]; rfl
      have many : Ev E (tM1 (oJoin E.K) (tC (.str (Str.ofString " "))) (tOp (rRep) (tLst (tCons (tC (.str (Str.ofString "1-2"))) tNil)) (tC (.int 60)))) [.s ns, .d (stonesD ss), .d (.str z), s3, .d (optS (readV z)), s5, .no, .no] (.str (textF (List.replicate 60 (1, 2)))) := by
        have := ev_join (E := E) (δ := [.s ns, .d (stonesD ss), .d (.str z), s3, .d (optS (readV z)), s5, .no, .no]) (ta := tC (.str (Str.ofString " "))) (tb := (tOp (rRep) (tLst (tCons (tC (.str (Str.ofString "1-2"))) tNil)) (tC (.int 60)))) (a := blankS) (ys := List.replicate 60 (Str.ofString "1-2")) ev_str (by
          have q := evF_rep11 (E := E) (δ := [.s ns, .d (stonesD ss), .d (.str z), s3, .d (optS (readV z)), s5, .no, .no]) (ta := tLst (tCons (tC (.str (Str.ofString "1-2"))) tNil)) (tb := tC (.int 60)) (xs := [.str (Str.ofString "1-2")]) (k := 60) (ev_lst (ed_cons ev_str ed_nil) (by show 1 ≤ 100000; decide)) ev_int (by decide) (by decide)
          rw [rep] at q
          exact q.ev) (by
            have st12 : stS (1, 2) = Str.ofString "1-2" := by decide +kernel
            have e60 : (List.replicate 60 ((1 : Int), (2 : Int))).map stS = List.replicate 60 (Str.ofString "1-2") := by rw [List.map_replicate, st12]
            have h := text_len (ok_12 60)
            rw [e60] at h
            exact Nat.le_trans h (by rw [List.length_replicate]; decide))
        rw [rep_text] at this
        exact this
      refine q_asg many ?_
      have hr60 : readV (textF (List.replicate 60 (1, 2))) = some (List.replicate 60 (1, 2)) := by
        rw [read_text (ok_12 60) (by decide), List.length_replicate]
        rfl
      have hr61 : readV (textF (List.replicate 60 (1, 2)) ++ Str.ofString " 1-2") = none := by
        rw [text_more 59, read_text (ok_12 61) (by decide), List.length_replicate]
        rfl
      have l60 : (textF (List.replicate 60 (1, 2))).length ≤ 840 := by
        have h1 := join_len blankS ((List.replicate 60 ((1 : Int), (2 : Int))).map stS)
        have h2 := text_len (ok_12 60)
        rw [List.length_replicate] at h2
        have h1 : (textF (List.replicate 60 (1, 2))).length ≤ _ := h1
        omega
      have l4 : (Str.ofString " 1-2").length = 4 := by decide +kernel
      have shn : SeqAt.shaped (.str (Str.ofString "none") : D) = true := by decide +kernel
      have t2 : Ev E (tCall (sp_told11 E.K) [] E0 (tCons (tOp (oCatS) (tVar 6) (tC (.str (Str.ofString " 1-2")))) tNil)) [.s ns, .d (stonesD ss), .d (.str z), s3, .d (optS (readV z)), s5, .d (.str (textF (List.replicate 60 (1, 2)))), .no] (.str (Str.ofString "none")) := by
        refine ev_call (R := R_told11) (ea_d (ev_catX (ev_var rfl) ev_str (by omega)) ea_nil) ⟨_, rfl, by rw [len_append]; omega, ?_⟩
        rw [hr61]
        rfl
      refine xs_ret (d := .bool true) ?_ rfl
      refine (ev_andV (ev_eqI (ev_lenL (xs := (List.replicate 60 (1, 2)).map stD) (ev_callU (R := R_readX) (C := C_readX xa) (ea_d (ev_var rfl) ea_nil) ⟨_, _, rfl, by omega, hr60, rfl⟩)) ev_int) fun _ => ev_eqD t2 ev_str shn shn).is ?_
      rw [SeqAt.eqv_refl _ (shp_lay shn), List.length_map, List.length_replicate]
      rfl
end
end PL

namespace PL
open PySem PySem.Spec PyProof.Rows L2
def top (i : Nat) : Stmt := PySem.Challenge.pw_stonerow_k11_texts_refused.main.body.getD i (.Pass ⟨0, 0, 0, 0⟩)
structure Bl (mg : Str → Option Value) where
  b_all : mg "all" = none
  b_bool : mg "bool" = none
  b_int : mg "int" = none
  b_isinstance : mg "isinstance" = none
  b_len : mg "len" = none
  b_list : mg "list" = none
  b_max : mg "max" = none
  b_min : mg "min" = none
  b_range : mg "range" = none
  b_str : mg "str" = none
  b_tuple : mg "tuple" = none
  t_MOST_STONES : Tok
  c_MOST_STONES : mg "MOST_STONES" = some (.int 60 t_MOST_STONES)
  t_FIGURES : Tok
  c_FIGURES : mg "FIGURES" = some (.str (Str.ofString "0123456789") t_FIGURES)
  t_MOST_FIGURES : Tok
  c_MOST_FIGURES : mg "MOST_FIGURES" = some (.int 6 t_MOST_FIGURES)
abbrev s_number_ofX : Stmt := top 10
abbrev n_number_ofX : List Str := ["word", "sign"]
theorem sc_number_ofX : FnScope n_number_ofX ["word"] (defScope s_number_ofX) := ⟨rfl, rfl, rfl, by decide +kernel, rfl, by decide +kernel, by decide +kernel⟩
theorem len_number_ofX {K : PySem.W.Frag} {xa : XA} : ∀ vs H Q E, (sp_number_ofX K xa) vs H Q E → vs.length = 1 := fun _ _ _ _ h => spU_len h (by intro as d h; first | exact h.elim | (obtain ⟨rfl, _⟩ := h; rfl) | (obtain ⟨_, rfl, _⟩ := h; rfl) | (obtain ⟨_, _, rfl, _⟩ := h; rfl) | (obtain ⟨_, _, _, rfl, _⟩ := h; rfl) | (obtain ⟨_, _, _, _, rfl, _⟩ := h; rfl) | (rcases h with ⟨_, rfl, _⟩ | ⟨_, rfl, _⟩ <;> rfl) | (rcases h with ⟨_, _, rfl, _⟩ | ⟨_, _, rfl, _⟩ <;> rfl) | (rcases h with ⟨_, _, _, rfl, _⟩ | ⟨_, _, rfl, _⟩ <;> rfl)) (by intro as d h; first | exact h.elim | (obtain ⟨rfl, _⟩ := h; rfl) | (obtain ⟨_, rfl, _⟩ := h; rfl) | (obtain ⟨_, _, rfl, _⟩ := h; rfl) | (obtain ⟨_, _, _, rfl, _⟩ := h; rfl) | (obtain ⟨_, _, _, _, rfl, _⟩ := h; rfl) | (rcases h with ⟨_, rfl, _⟩ | ⟨_, rfl, _⟩ <;> rfl) | (rcases h with ⟨_, _, rfl, _⟩ | ⟨_, _, rfl, _⟩ <;> rfl) | (rcases h with ⟨_, _, _, rfl, _⟩ | ⟨_, _, rfl, _⟩ <;> rfl))
theorem run_number_ofX {K : PySem.W.Frag} {w : World} {mg : Str → Option Value} {xa : XA} (T : XT K mg xa) {vs : List V} {H : Hp} {Q : VK} {E : XK} (h : (sp_number_ofX K xa) vs H Q E) : t_number_ofX K w E xa { nx := fun _ H' => Q .non H', rt := Q } (start n_number_ofX vs) H :=
  spU_run h (by rw [len_number_ofX _ _ _ _ h]; decide) (fun as d hR E2 hK => by
    subst hK
    obtain ⟨z, rfl, h, rfl⟩ := hR; exact (xs_number_ofX_ok z h).imp fun o e => by subst e; exact rfl) (fun as c hC E2 hK hW => by
    subst hK
    obtain ⟨z, rfl, hl, h, rfl⟩ := hC; exact xs_number_ofX_no z hl h hW)
section
variable {P : Program} {w : World} {K : PySem.W.Frag} {mg : Str → Option Value} {base : Heap}
theorem ok_number_ofX (F : Fd K mg "number_of" s_number_ofX) (B : Bl mg) {xa : XA} (XE : XT K mg xa) : ClX P w K mg base 1 "number_of" (sp_number_ofX K xa) := by
  refine cl_ofX (k := 0) F sc_number_ofX len_number_ofX (fun _ _ _ _ _ _ us hl => match us, hl with | [_], _ => rfl) fun f cdv A outer s H vs Q E hr h => ⟨t_number_ofX K w E xa, ?_, run_number_ofX XE h⟩
  exact (pss_cons (ps_if (PW.pt (pw_or (pt_not (pt_chain op_le op_le pe_int (pe_callB call_len_str (by rfl) B.b_len (by decide +kernel) (pa_cons (pv 0) pa_nil)) (pe_glob rfl B.c_MOST_FIGURES ⟨_, rfl⟩))) (pw_or1 (pt_not (pt_val (pe_callB (cr_all rfl) (by rfl) B.b_all (by decide +kernel) (pa_cons (pe_lc (own := [("sign", 1)]) (g := (gName 1)) rfl sc_number_ofX.nd (pi_str (pv 0)) (blkOk_by (own := [("sign", 1)]) (N := n_number_ofX) (sc := (defScope s_number_ofX)) (by decide +kernel)) (fun _ _ _ _ _ => (pg_name (i := 1) sc_number_ofX.nd rfl (by first | exact Or.inl rfl | exact Or.inr rfl))) (fun _ _ _ _ _ => pts_nil) (fun _ _ _ _ _ => (pe_cmpR op_in_sign (pv 1) (pe_glob rfl B.c_FIGURES ⟨_, rfl⟩) (by rfl)))) pa_nil)))))))
    (pss_one (ps_raise (t := fun _ H Q => Q (.ref (xa .NoText)) none H) (W := fun cls d _ H => E cls d H) rfl (takes_of rfl rfl rfl rfl) (by exact (pmk_own PySem.F.excBase_ValueError (XE.ei .NoText rfl) (XE.g .NoText rfl) (XE.k .NoText rfl) (raises_own (XE.ec .NoText rfl).hs (XE.ty .NoText rfl)) rfl))))
    pss_nil)
    (pss_cons (ps_if (PW.pt (pw_and (pt_cmpR op_eq (pe_ix ix_str (pv 0) pe_int (fun _ _ => rfl)) pe_str (nomark _)) (pw_and1 (pt_cmpR op_ne (pv 0) pe_str (nomark _)))))
    (pss_one (ps_raise (t := fun _ H Q => Q (.ref (xa .NoText)) none H) (W := fun cls d _ H => E cls d H) rfl (takes_of rfl rfl rfl rfl) (by exact (pmk_own PySem.F.excBase_ValueError (XE.ei .NoText rfl) (XE.g .NoText rfl) (XE.k .NoText rfl) (raises_own (XE.ec .NoText rfl).hs (XE.ty .NoText rfl)) rfl))))
    pss_nil)
    (pss_one (ps_ret (pe_callTy call_int_str (by rfl) B.b_int (by decide +kernel) (pa_cons (pv 0) pa_nil))))))
end
abbrev s_stone_ofX : Stmt := top 11
abbrev n_stone_ofX : List Str := ["word", "parts"]
theorem sc_stone_ofX : FnScope n_stone_ofX ["word"] (defScope s_stone_ofX) := ⟨rfl, rfl, rfl, by decide +kernel, rfl, by decide +kernel, by decide +kernel⟩
theorem len_stone_ofX {K : PySem.W.Frag} {xa : XA} : ∀ vs H Q E, (sp_stone_ofX K xa) vs H Q E → vs.length = 1 := fun _ _ _ _ h => spU_len h (by intro as d h; first | exact h.elim | (obtain ⟨rfl, _⟩ := h; rfl) | (obtain ⟨_, rfl, _⟩ := h; rfl) | (obtain ⟨_, _, rfl, _⟩ := h; rfl) | (obtain ⟨_, _, _, rfl, _⟩ := h; rfl) | (obtain ⟨_, _, _, _, rfl, _⟩ := h; rfl) | (rcases h with ⟨_, rfl, _⟩ | ⟨_, rfl, _⟩ <;> rfl) | (rcases h with ⟨_, _, rfl, _⟩ | ⟨_, _, rfl, _⟩ <;> rfl) | (rcases h with ⟨_, _, _, rfl, _⟩ | ⟨_, _, rfl, _⟩ <;> rfl)) (by intro as d h; first | exact h.elim | (obtain ⟨rfl, _⟩ := h; rfl) | (obtain ⟨_, rfl, _⟩ := h; rfl) | (obtain ⟨_, _, rfl, _⟩ := h; rfl) | (obtain ⟨_, _, _, rfl, _⟩ := h; rfl) | (obtain ⟨_, _, _, _, rfl, _⟩ := h; rfl) | (rcases h with ⟨_, rfl, _⟩ | ⟨_, rfl, _⟩ <;> rfl) | (rcases h with ⟨_, _, rfl, _⟩ | ⟨_, _, rfl, _⟩ <;> rfl) | (rcases h with ⟨_, _, _, rfl, _⟩ | ⟨_, _, rfl, _⟩ <;> rfl))
theorem run_stone_ofX {K : PySem.W.Frag} {w : World} {mg : Str → Option Value} {xa : XA} (T : XT K mg xa) {vs : List V} {H : Hp} {Q : VK} {E : XK} (h : (sp_stone_ofX K xa) vs H Q E) : t_stone_ofX K w E xa { nx := fun _ H' => Q .non H', rt := Q } (start n_stone_ofX vs) H :=
  spU_run h (by rw [len_stone_ofX _ _ _ _ h]; decide) (fun as d hR E2 hK => by
    subst hK
    obtain ⟨z, s, rfl, hl, h, rfl⟩ := hR; exact (xs_stone_ofX_ok z s hl h).imp fun o e => by subst e; exact rfl) (fun as c hC E2 hK hW => by
    subst hK
    obtain ⟨z, rfl, hl, h, rfl⟩ := hC; exact xs_stone_ofX_no z hl h hW)
section
variable {P : Program} {w : World} {K : PySem.W.Frag} {mg : Str → Option Value} {base : Heap}
theorem ok_stone_ofX (F : Fd K mg "stone_of" s_stone_ofX) (B : Bl mg) {xa : XA} (XE : XT K mg xa) (C_number_ofX : ClX P w K mg base 1 "number_of" (sp_number_ofX K xa)) : ClX P w K mg base 2 "stone_of" (sp_stone_ofX K xa) := by
  refine cl_ofX (k := 1) F sc_stone_ofX len_stone_ofX (fun _ _ _ _ _ _ us hl => match us, hl with | [_], _ => rfl) fun f cdv A outer s H vs Q E hr h => ⟨t_stone_ofX K w E xa, ?_, run_stone_ofX XE h⟩
  exact (pss_cons (ps_set (i := 1) sc_stone_ofX.nd rfl (by first | exact Or.inl rfl | exact Or.inr rfl) (pe_split (pv 0) pe_str))
    (pss_cons (ps_if (pt_cmpR op_ne (pe_callB call_len (by rfl) B.b_len (by decide +kernel) (pa_cons (pv 1) pa_nil)) pe_int (nomark _))
    (pss_one (ps_raise (t := fun _ H Q => Q (.ref (xa .NoText)) none H) (W := fun cls d _ H => E cls d H) rfl (takes_of rfl rfl rfl rfl) (by exact (pmk_own PySem.F.excBase_ValueError (XE.ei .NoText rfl) (XE.g .NoText rfl) (XE.k .NoText rfl) (raises_own (XE.ec .NoText rfl).hs (XE.ty .NoText rfl)) rfl))))
    pss_nil)
    (pss_one (ps_ret (pe_tup (pa_cons (pe_clX C_number_ofX hr (by decide) rfl (takes_of rfl rfl rfl rfl) (pa_cons (pe_ix ix_list (pv 1) pe_int (fun _ _ => rfl)) pa_nil)) (pa_cons (pe_clX C_number_ofX hr (by decide) rfl (takes_of rfl rfl rfl rfl) (pa_cons (pe_ix ix_list (pv 1) pe_int (fun _ _ => rfl)) pa_nil)) pa_nil)))))))
end
abbrev s_readX : Stmt := top 12
abbrev n_readX : List Str := ["text", "words", "word"]
theorem sc_readX : FnScope n_readX ["text"] (defScope s_readX) := ⟨rfl, rfl, rfl, by decide +kernel, rfl, by decide +kernel, by decide +kernel⟩
theorem len_readX {K : PySem.W.Frag} {xa : XA} : ∀ vs H Q E, (sp_readX K xa) vs H Q E → vs.length = 1 := fun _ _ _ _ h => spU_len h (by intro as d h; first | exact h.elim | (obtain ⟨rfl, _⟩ := h; rfl) | (obtain ⟨_, rfl, _⟩ := h; rfl) | (obtain ⟨_, _, rfl, _⟩ := h; rfl) | (obtain ⟨_, _, _, rfl, _⟩ := h; rfl) | (obtain ⟨_, _, _, _, rfl, _⟩ := h; rfl) | (rcases h with ⟨_, rfl, _⟩ | ⟨_, rfl, _⟩ <;> rfl) | (rcases h with ⟨_, _, rfl, _⟩ | ⟨_, _, rfl, _⟩ <;> rfl) | (rcases h with ⟨_, _, _, rfl, _⟩ | ⟨_, _, rfl, _⟩ <;> rfl)) (by intro as d h; first | exact h.elim | (obtain ⟨rfl, _⟩ := h; rfl) | (obtain ⟨_, rfl, _⟩ := h; rfl) | (obtain ⟨_, _, rfl, _⟩ := h; rfl) | (obtain ⟨_, _, _, rfl, _⟩ := h; rfl) | (obtain ⟨_, _, _, _, rfl, _⟩ := h; rfl) | (rcases h with ⟨_, rfl, _⟩ | ⟨_, rfl, _⟩ <;> rfl) | (rcases h with ⟨_, _, rfl, _⟩ | ⟨_, _, rfl, _⟩ <;> rfl) | (rcases h with ⟨_, _, _, rfl, _⟩ | ⟨_, _, rfl, _⟩ <;> rfl))
theorem run_readX {K : PySem.W.Frag} {w : World} {mg : Str → Option Value} {xa : XA} (T : XT K mg xa) {vs : List V} {H : Hp} {Q : VK} {E : XK} (h : (sp_readX K xa) vs H Q E) : t_readX K w E xa { nx := fun _ H' => Q .non H', rt := Q } (start n_readX vs) H :=
  spU_run h (by rw [len_readX _ _ _ _ h]; decide) (fun as d hR E2 hK => by
    subst hK
    obtain ⟨z, ss, rfl, hl, h, rfl⟩ := hR; exact (xs_readX_ok z ss hl h).imp fun o e => by subst e; exact rfl) (fun as c hC E2 hK hW => by
    subst hK
    obtain ⟨z, rfl, hl, h, rfl⟩ := hC; exact xs_readX_no z hl h hW)
section
variable {P : Program} {w : World} {K : PySem.W.Frag} {mg : Str → Option Value} {base : Heap}
theorem ok_readX (F : Fd K mg "read" s_readX) (B : Bl mg) {xa : XA} (XE : XT K mg xa) (C_stone_ofX : ClX P w K mg base 2 "stone_of" (sp_stone_ofX K xa)) : ClX P w K mg base 3 "read" (sp_readX K xa) := by
  refine cl_ofX (k := 2) F sc_readX len_readX (fun _ _ _ _ _ _ us hl => match us, hl with | [_], _ => rfl) fun f cdv A outer s H vs Q E hr h => ⟨t_readX K w E xa, ?_, run_readX XE h⟩
  exact (pss_cons (ps_if (pt_cmpR op_eq (pv 0) pe_str (nomark _))
    (pss_one (ps_ret (pe_lst pa_nil)))
    pss_nil)
    (pss_cons (ps_set (i := 1) sc_readX.nd rfl (by first | exact Or.inl rfl | exact Or.inr rfl) (pe_split (pv 0) pe_str))
    (pss_cons (ps_if (pt_cmpR op_gt (pe_callB call_len (by rfl) B.b_len (by decide +kernel) (pa_cons (pv 1) pa_nil)) (pe_glob rfl B.c_MOST_STONES ⟨_, rfl⟩) (nomark _))
    (pss_one (ps_raise (t := fun _ H Q => Q (.ref (xa .NoText)) none H) (W := fun cls d _ H => E cls d H) rfl (takes_of rfl rfl rfl rfl) (by exact (pmk_own PySem.F.excBase_ValueError (XE.ei .NoText rfl) (XE.g .NoText rfl) (XE.k .NoText rfl) (raises_own (XE.ec .NoText rfl).hs (XE.ty .NoText rfl)) rfl))))
    pss_nil)
    (pss_one (ps_ret (pe_lcX (own := [("word", 2)]) (g := (gName 2)) (E := E) (W := fun cls d _ H => E cls d H) rfl rfl (takes_of rfl rfl rfl rfl) (fun _ _ _ _ h => h) rfl sc_readX.nd (pi_list (pv 1)) (blkOk_by (own := [("word", 2)]) (N := n_readX) (sc := (defScope s_readX)) (by decide +kernel)) (fun _ _ _ _ _ => (pg_name (i := 2) sc_readX.nd rfl (by first | exact Or.inl rfl | exact Or.inr rfl))) (fun _ _ _ _ _ => pts_nil) (fun _ _ _ _ _ => (pe_clB C_stone_ofX hr (by decide) rfl (pa_cons (pv 2) pa_nil)))))))))
end
abbrev s_cell : Stmt := top 14
abbrev n_cell : List Str := ["_law_script", "_law_k", "_law_cell_here", "_law_more"]
theorem sc_cell : FnScope n_cell ["_law_script", "_law_k"] (defScope s_cell) := ⟨rfl, rfl, rfl, by decide +kernel, rfl, by decide +kernel, by decide +kernel⟩
theorem len_cell {K : PySem.W.Frag} : ∀ vs H Q E, (sp_cell K) vs H Q E → vs.length = 2 := fun _ _ _ _ h => spR_len h (by intro as d h; first | (obtain ⟨_, rfl, _⟩ := h; rfl) | (obtain ⟨_, _, rfl, _⟩ := h; rfl) | (obtain ⟨_, _, _, rfl, _⟩ := h; rfl) | (obtain ⟨_, _, _, _, rfl, _⟩ := h; rfl))
theorem run_cell {K : PySem.W.Frag} {w : World} {vs : List V} {H : Hp} {Q : VK} {E : XK} (h : (sp_cell K) vs H Q E) : t_cell K w { nx := fun _ H' => Q .non H', rt := Q } (start n_cell vs) H :=
  spR_run h (by rw [len_cell _ _ _ _ h]; decide) fun as d hR E hK => by
    subst hK
    obtain ⟨ns, k, rfl, hz, rfl⟩ := hR
    exact (xs_cell ns k hz).imp fun o e => by subst e; exact rfl
section
variable {P : Program} {w : World} {K : PySem.W.Frag} {mg : Str → Option Value} {base : Heap}
theorem ok_cell (F : Fd K mg "_law_cell" s_cell) (B : Bl mg) : Cl P w K mg base 1 "_law_cell" (sp_cell K) := by
  refine cl_of (k := 0) F sc_cell len_cell (fun _ _ _ _ _ _ us hl => match us, hl with | [_, _], _ => rfl) fun f cdv A outer s H vs Q E hr h => ⟨t_cell K w, ?_, run_cell h⟩
  exact (pss_cons (ps_set (i := 2) sc_cell.nd rfl (by first | exact Or.inl rfl | exact Or.inr rfl) (pe_op op_add (pe_op op_mul pe_int (pv 1)) pe_int))
    (pss_cons (ps_if (pt_cmpR (op_neD hr.units) (pv 0) (pe_lst pa_nil) (nomark _))
    (pss_cons (ps_set (i := 2) sc_cell.nd rfl (by first | exact Or.inl rfl | exact Or.inr rfl) (pe_op op_mul (pe_ix ix_list (pv 0) (pe_op op_mod (pv 1) (pe_callB call_len (by rfl) B.b_len (by decide +kernel) (pa_cons (pv 0) pa_nil))) (fun _ _ => rfl)) pe_int))
    (pss_one (ps_set (i := 2) sc_cell.nd rfl (by first | exact Or.inl rfl | exact Or.inr rfl) (pe_op op_add (pe_op op_add (pv 2) (pe_op op_mul pe_int (pv 1))) (pe_op op_mul (pe_op op_fdiv (pv 1) (pe_callB call_len (by rfl) B.b_len (by decide +kernel) (pa_cons (pv 0) pa_nil))) pe_int)))))
    pss_nil)
    (pss_cons (ps_set (i := 3) sc_cell.nd rfl (by first | exact Or.inl rfl | exact Or.inr rfl) (pe_op op_mod (pv 2) pe_int))
    (pss_cons (ps_set (i := 3) sc_cell.nd rfl (by first | exact Or.inl rfl | exact Or.inr rfl) (pe_op op_mod (pe_op op_mul (pv 3) (pv 3)) pe_int))
    (pss_one (ps_ret (pe_op op_mod (pe_op op_add (pe_op op_add (pe_op op_mul (pv 3) (pv 3)) (pe_op op_mul pe_int (pv 3))) (pv 1)) pe_int)))))))
end
abbrev s_stones : Stmt := top 15
abbrev n_stones : List Str := ["_law_script", "_law_kind", "_law_found", "_law_k", "_law_cell_here", "_law_most"]
theorem sc_stones : FnScope n_stones ["_law_script"] (defScope s_stones) := ⟨rfl, rfl, rfl, by decide +kernel, rfl, by decide +kernel, by decide +kernel⟩
theorem len_stones {K : PySem.W.Frag} : ∀ vs H Q E, (sp_stones K) vs H Q E → vs.length = 1 := fun _ _ _ _ h => spR_len h (by intro as d h; first | (obtain ⟨_, rfl, _⟩ := h; rfl) | (obtain ⟨_, _, rfl, _⟩ := h; rfl) | (obtain ⟨_, _, _, rfl, _⟩ := h; rfl) | (obtain ⟨_, _, _, _, rfl, _⟩ := h; rfl))
theorem run_stones {K : PySem.W.Frag} {w : World} {vs : List V} {H : Hp} {Q : VK} {E : XK} (h : (sp_stones K) vs H Q E) : t_stones K w { nx := fun _ H' => Q .non H', rt := Q } (start n_stones vs) H :=
  spR_run h (by rw [len_stones _ _ _ _ h]; decide) fun as d hR E hK => by
    subst hK
    obtain ⟨ns, rfl, hz, rfl⟩ := hR
    exact (xs_stones ns hz).imp fun o e => by subst e; exact rfl
section
variable {P : Program} {w : World} {K : PySem.W.Frag} {mg : Str → Option Value} {base : Heap}
theorem ok_stones (F : Fd K mg "_law_stones" s_stones) (B : Bl mg) (C_cell : Cl P w K mg base 1 "_law_cell" (sp_cell K)) : Cl P w K mg base 2 "_law_stones" (sp_stones K) := by
  refine cl_of (k := 1) F sc_stones len_stones (fun _ _ _ _ _ _ us hl => match us, hl with | [_], _ => rfl) fun f cdv A outer s H vs Q E hr h => ⟨t_stones K w, ?_, run_stones h⟩
  exact (pss_cons (ps_set (i := 1) sc_stones.nd rfl (by first | exact Or.inl rfl | exact Or.inr rfl) (pe_cl C_cell hr (by decide) rfl (pa_cons (pv 0) (pa_cons pe_int pa_nil))))
    (pss_cons (ps_set (i := 2) sc_stones.nd rfl (by first | exact Or.inl rfl | exact Or.inr rfl) (pe_lst pa_nil))
    (pss_cons (ps_for PassesOwn.never rfl (pi_range1 (by rfl) B.b_range (pa_cons (pe_callB (call_max2 rfl) (by rfl) B.b_max (by decide +kernel) (pa_cons (pe_callB (call_min2 rfl) (by rfl) B.b_min (by decide +kernel) (pa_cons (pe_callB call_len (by rfl) B.b_len (by decide +kernel) (pa_cons (pv 0) pa_nil)) (pa_cons pe_int pa_nil))) (pa_cons (pe_op op_mod (pe_op op_fdiv (pv 1) pe_int) pe_int) pa_nil))) pa_nil)) (pg_name (i := 3) sc_stones.nd rfl (by first | exact Or.inl rfl | exact Or.inr rfl))
    (pss_cons (ps_set (i := 4) sc_stones.nd rfl (by first | exact Or.inl rfl | exact Or.inr rfl) (pe_cl C_cell hr (by decide) rfl (pa_cons (pv 0) (pa_cons (pe_op op_add pe_int (pv 3)) pa_nil))))
    (pss_cons (ps_set (i := 5) sc_stones.nd rfl (by first | exact Or.inl rfl | exact Or.inr rfl) (pe_ix ix_list (pe_lst (pa_cons pe_int (pa_cons pe_int (pa_cons pe_int (pa_cons pe_int pa_nil))))) (pe_op op_mod (pe_op op_add (pe_op op_mod (pv 1) pe_int) (pe_op op_fdiv (pe_op op_mod (pe_op op_fdiv (pv 4) pe_int) pe_int) pe_int)) pe_int) (fun _ _ => rfl)))
    (pss_cons (ps_expr (pe_bm PySem.F.plainAttrs_list PySem.F.slot_list_append PySem.F.type_list_append mt_append (pv 2) (pa_cons (pe_tup (pa_cons (pe_op op_mod (pe_op op_fdiv (pv 4) pe_int) (pv 5)) (pa_cons (pe_op op_mod (pe_op op_fdiv (pe_cl C_cell hr (by decide) rfl (pa_cons (pv 0) (pa_cons (pe_op op_add pe_int (pv 3)) pa_nil))) pe_int) (pv 5)) pa_nil))) pa_nil)))
    (pss_one (ps_if (pt_cmpR op_eq (pe_op op_mod (pv 4) pe_int) pe_int (nomark _))
    (pss_one (ps_asg (pe_tup (pa_cons (pe_ix ix_tup (pe_ix ix_list (pv 2) (pv 3) (fun _ _ => rfl)) pe_int (fun _ _ => rfl)) (pa_cons (pe_ix ix_tup (pe_ix ix_list (pv 2) (pv 3) (fun _ _ => rfl)) pe_int (fun _ _ => rfl)) pa_nil))) (pg_sub (pv 2) (pv 3) set_list)))
    pss_nil))))))
    (pss_one (ps_ret (pv 2))))))
end
abbrev s_alike : Stmt := top 16
abbrev n_alike : List Str := ["_law_found", "_law_due", "_law_k"]
theorem sc_alike : FnScope n_alike ["_law_found", "_law_due"] (defScope s_alike) := ⟨rfl, rfl, rfl, by decide +kernel, rfl, by decide +kernel, by decide +kernel⟩
theorem len_alike {K : PySem.W.Frag} {n : Nat} : ∀ vs H Q E, (spR K (R_alike n)) vs H Q E → vs.length = 2 := fun _ _ _ _ h => spR_len h (by intro as d h; first | (obtain ⟨_, rfl, _⟩ := h; rfl) | (obtain ⟨_, _, rfl, _⟩ := h; rfl) | (obtain ⟨_, _, _, rfl, _⟩ := h; rfl) | (obtain ⟨_, _, _, _, rfl, _⟩ := h; rfl))
theorem run_alike {K : PySem.W.Frag} {w : World} {n : Nat} {vs : List V} {H : Hp} {Q : VK} {E : XK} (h : (spR K (R_alike n)) vs H Q E) : t_alike K w (spA K n) { nx := fun _ H' => Q .non H', rt := Q } (start n_alike vs) H :=
  spR_run h (by rw [len_alike _ _ _ _ h]; decide) fun as d hR E hK => by
    subst hK
    obtain ⟨x, rfl, hx, rfl⟩ := hR
    exact (xs_alike n x hx).imp fun o e => by subst e; exact rfl
section
variable {P : Program} {w : World} {K : PySem.W.Frag} {mg : Str → Option Value} {base : Heap}
theorem ok_alike (F : Fd K mg "_law_alike" s_alike) (B : Bl mg) : ∀ n, Cl P w K mg base (n + 1) "_law_alike" (spA K n)
  | 0 => cl_false F 1 ["_law_found", "_law_due"] (fun _ _ _ _ _ _ us hl => match us, hl with | [_, _], _ => rfl)
  | n + 1 => by
    have REC := ok_alike F B n
    refine cl_of (k := n + 1) F sc_alike len_alike (fun _ _ _ _ _ _ us hl => match us, hl with | [_, _], _ => rfl) fun f cdv A outer s H vs Q E hr h => ⟨t_alike K w (spA K n), ?_, run_alike (n := n) (E := E) h⟩
    exact (pss_cons (ps_if (pt_val (pe_callB call_isiT (by rfl) B.b_isinstance (by decide +kernel) (pa_cons (pv 1) (pa_cons (pe_tup (pa_cons (pe_bltn (by rfl) B.b_tuple (by decide +kernel) rfl) (pa_cons (pe_bltn (by rfl) B.b_list (by decide +kernel) rfl) pa_nil))) pa_nil))))
    (pss_cons (ps_if (PW.pt (pw_or (pt_cmpR op_ne (pe_callB call_isi (by rfl) B.b_isinstance (by decide +kernel) (pa_cons (pv 0) (pa_cons (pe_bltn (by rfl) B.b_tuple (by decide +kernel) rfl) pa_nil))) (pe_callB call_isi (by rfl) B.b_isinstance (by decide +kernel) (pa_cons (pv 1) (pa_cons (pe_bltn (by rfl) B.b_tuple (by decide +kernel) rfl) pa_nil))) (nomark _)) (pw_or1 (pt_cmpR op_ne (pe_callB call_isi (by rfl) B.b_isinstance (by decide +kernel) (pa_cons (pv 0) (pa_cons (pe_bltn (by rfl) B.b_list (by decide +kernel) rfl) pa_nil))) (pe_callB call_isi (by rfl) B.b_isinstance (by decide +kernel) (pa_cons (pv 1) (pa_cons (pe_bltn (by rfl) B.b_list (by decide +kernel) rfl) pa_nil))) (nomark _)))))
    (pss_one (ps_ret pe_bl))
    pss_nil)
    (pss_one (ps_ret (pe_and (pe_cmpR op_eq (pe_callB call_len (by rfl) B.b_len (by decide +kernel) (pa_cons (pv 0) pa_nil)) (pe_callB call_len (by rfl) B.b_len (by decide +kernel) (pa_cons (pv 1) pa_nil)) (nomark _)) (pe_one (pe_callB (cr_all rfl) (by rfl) B.b_all (by decide +kernel) (pa_cons (pe_lc (own := [("_law_k", 2)]) (g := (gName 2)) rfl sc_alike.nd (pi_range1 (by rfl) B.b_range (pa_cons (pe_callB call_len (by rfl) B.b_len (by decide +kernel) (pa_cons (pv 1) pa_nil)) pa_nil)) (blkOk_by (own := [("_law_k", 2)]) (N := n_alike) (sc := (defScope s_alike)) (by decide +kernel)) (fun _ _ _ _ _ => (pg_name (i := 2) sc_alike.nd rfl (by first | exact Or.inl rfl | exact Or.inr rfl))) (fun _ _ _ _ _ => pts_nil) (fun _ _ _ _ _ => (pe_cl REC hr (by omega) rfl (pa_cons (pe_ix ix_seq (pv 0) (pv 2) (fun _ _ => rfl)) (pa_cons (pe_ix ix_seq (pv 1) (pv 2) (fun _ _ => rfl)) pa_nil))))) pa_nil)))))))
    pss_nil)
    (pss_one (ps_ret (pe_and (pe_cmpR op_eq (pe_callB call_isi (by rfl) B.b_isinstance (by decide +kernel) (pa_cons (pv 0) (pa_cons (pe_bltn (by rfl) B.b_bool (by decide +kernel) rfl) pa_nil))) (pe_callB call_isi (by rfl) B.b_isinstance (by decide +kernel) (pa_cons (pv 1) (pa_cons (pe_bltn (by rfl) B.b_bool (by decide +kernel) rfl) pa_nil))) (nomark _)) (pe_one (pe_cmpR (op_eqD hr.units) (pv 0) (pv 1) (nomark _)))))))
end
abbrev s_law_number : Stmt := top 17
abbrev n_law_number : List Str := ["_law_word", "_law_sign"]
theorem sc_law_number : FnScope n_law_number ["_law_word"] (defScope s_law_number) := ⟨rfl, rfl, rfl, by decide +kernel, rfl, by decide +kernel, by decide +kernel⟩
theorem len_law_number {K : PySem.W.Frag} : ∀ vs H Q E, (sp_law_number K) vs H Q E → vs.length = 1 := fun _ _ _ _ h => spR_len h (by intro as d h; first | (obtain ⟨_, rfl, _⟩ := h; rfl) | (obtain ⟨_, _, rfl, _⟩ := h; rfl) | (obtain ⟨_, _, _, rfl, _⟩ := h; rfl) | (obtain ⟨_, _, _, _, rfl, _⟩ := h; rfl))
theorem run_law_number {K : PySem.W.Frag} {w : World} {vs : List V} {H : Hp} {Q : VK} {E : XK} (h : (sp_law_number K) vs H Q E) : t_law_number K w { nx := fun _ H' => Q .non H', rt := Q } (start n_law_number vs) H :=
  spR_run h (by rw [len_law_number _ _ _ _ h]; decide) fun as d hR E hK => by
    subst hK
    obtain ⟨z, rfl, hz, hA, rfl⟩ := hR
    exact (xs_law_number z hz hA).imp fun o e => by subst e; exact rfl
section
variable {P : Program} {w : World} {K : PySem.W.Frag} {mg : Str → Option Value} {base : Heap}
theorem ok_law_number (F : Fd K mg "_law_number" s_law_number) (B : Bl mg) : Cl P w K mg base 1 "_law_number" (sp_law_number K) := by
  refine cl_of (k := 0) F sc_law_number len_law_number (fun _ _ _ _ _ _ us hl => match us, hl with | [_], _ => rfl) fun f cdv A outer s H vs Q E hr h => ⟨t_law_number K w, ?_, run_law_number h⟩
  exact (pss_cons (ps_if (PW.pt (pw_or (pt_cmpR op_eq (pv 0) pe_str (nomark _)) (pw_or (pt_cmpR op_gt (pe_callB call_len_str (by rfl) B.b_len (by decide +kernel) (pa_cons (pv 0) pa_nil)) pe_int (nomark _)) (pw_or1 (PW.pt (pw_and (pt_cmpR op_eq (pe_ix ix_str (pv 0) pe_int (fun _ _ => rfl)) pe_str (nomark _)) (pw_and1 (pt_cmpR op_ne (pv 0) pe_str (nomark _)))))))))
    (pss_one (ps_ret pe_non))
    pss_nil)
    (pss_cons (ps_if (pt_cmpR (op_neD hr.units) (pe_lc (own := [("_law_sign", 1)]) (g := (gName 1)) rfl sc_law_number.nd (pi_str (pv 0)) (blkOk_by (own := [("_law_sign", 1)]) (N := n_law_number) (sc := (defScope s_law_number)) (by decide +kernel)) (fun _ _ _ _ _ => (pg_name (i := 1) sc_law_number.nd rfl (by first | exact Or.inl rfl | exact Or.inr rfl))) (fun _ _ _ _ _ => (pts_one (pt_cmpR op_notIn_sign (pv 1) pe_str (by rfl)))) (fun _ _ _ _ _ => (pv 1))) (pe_lst pa_nil) (nomark _))
    (pss_one (ps_ret pe_non))
    pss_nil)
    (pss_one (ps_ret (pe_callTy call_int_str (by rfl) B.b_int (by decide +kernel) (pa_cons (pv 0) pa_nil))))))
end
abbrev s_law_read : Stmt := top 18
abbrev n_law_read : List Str := ["_law_text", "_law_found", "_law_word", "_law_parts", "_law_part"]
theorem sc_law_read : FnScope n_law_read ["_law_text"] (defScope s_law_read) := ⟨rfl, rfl, rfl, by decide +kernel, rfl, by decide +kernel, by decide +kernel⟩
theorem len_law_read {K : PySem.W.Frag} : ∀ vs H Q E, (sp_law_read K) vs H Q E → vs.length = 1 := fun _ _ _ _ h => spR_len h (by intro as d h; first | (obtain ⟨_, rfl, _⟩ := h; rfl) | (obtain ⟨_, _, rfl, _⟩ := h; rfl) | (obtain ⟨_, _, _, rfl, _⟩ := h; rfl) | (obtain ⟨_, _, _, _, rfl, _⟩ := h; rfl))
theorem run_law_read {K : PySem.W.Frag} {w : World} {vs : List V} {H : Hp} {Q : VK} {E : XK} (h : (sp_law_read K) vs H Q E) : t_law_read K w { nx := fun _ H' => Q .non H', rt := Q } (start n_law_read vs) H :=
  spR_run h (by rw [len_law_read _ _ _ _ h]; decide) fun as d hR E hK => by
    subst hK
    obtain ⟨z, rfl, hz, hA, rfl⟩ := hR
    exact (xs_law_read z hz hA).imp fun o e => by subst e; exact rfl
section
variable {P : Program} {w : World} {K : PySem.W.Frag} {mg : Str → Option Value} {base : Heap}
theorem ok_law_read (F : Fd K mg "_law_read" s_law_read) (B : Bl mg) (C_law_number : Cl P w K mg base 1 "_law_number" (sp_law_number K)) : Cl P w K mg base 2 "_law_read" (sp_law_read K) := by
  refine cl_of (k := 1) F sc_law_read len_law_read (fun _ _ _ _ _ _ us hl => match us, hl with | [_], _ => rfl) fun f cdv A outer s H vs Q E hr h => ⟨t_law_read K w, ?_, run_law_read h⟩
  exact (pss_cons (ps_if (pt_cmpR op_eq (pv 0) pe_str (nomark _))
    (pss_one (ps_ret (pe_lst pa_nil)))
    pss_nil)
    (pss_cons (ps_set (i := 1) sc_law_read.nd rfl (by first | exact Or.inl rfl | exact Or.inr rfl) (pe_lst pa_nil))
    (pss_cons (ps_for PassesOwn.never rfl (pi_list (pe_split (pv 0) pe_str)) (pg_name (i := 2) sc_law_read.nd rfl (by first | exact Or.inl rfl | exact Or.inr rfl))
    (pss_cons (ps_setLc (i := 3) (own := [("_law_part", 4)]) (g := (gName 4)) rfl sc_law_read.nd rfl rfl (sw_true rfl rfl rfl (by decide +kernel)) (pi_list (pe_split (pv 2) pe_str)) (blkOk_by (own := [("_law_part", 4)]) (N := n_law_read) (sc := (defScope s_law_read)) (by decide +kernel)) (fun _ _ _ _ _ => (pg_name (i := 4) sc_law_read.nd rfl (by first | exact Or.inl rfl | exact Or.inr rfl))) (fun _ _ _ _ _ => pts_nil) (fun _ _ _ _ _ => (pe_cl C_law_number hr (by decide) rfl (pa_cons (pv 4) pa_nil))))
    (pss_cons (ps_if (PW.pt (pw_or (pt_cmpR op_ne (pe_callB call_len (by rfl) B.b_len (by decide +kernel) (pa_cons (pv 3) pa_nil)) pe_int (nomark _)) (pw_or1 (pt_cmpR op_in_seq pe_non (pv 3) (by rfl)))))
    (pss_one (ps_ret pe_non))
    pss_nil)
    (pss_one (ps_expr (pe_bm PySem.F.plainAttrs_list PySem.F.slot_list_append PySem.F.type_list_append mt_append (pv 1) (pa_cons (pe_tup (pa_cons (pe_ix ix_list (pv 3) pe_int (fun _ _ => rfl)) (pa_cons (pe_ix ix_list (pv 3) pe_int (fun _ _ => rfl)) pa_nil))) pa_nil)))))))
    (pss_cons (ps_if (pt_cmpR op_gt (pe_callB call_len (by rfl) B.b_len (by decide +kernel) (pa_cons (pv 1) pa_nil)) pe_int (nomark _))
    (pss_one (ps_ret pe_non))
    pss_nil)
    (pss_one (ps_ret (pv 1)))))))
end
abbrev s_law_bent : Stmt := top 19
abbrev n_law_bent : List Str := ["_law_text", "_law_cell_here", "_law_odd", "_law_at", "_law_more", "_law_words"]
theorem sc_law_bent : FnScope n_law_bent ["_law_text", "_law_cell_here"] (defScope s_law_bent) := ⟨rfl, rfl, rfl, by decide +kernel, rfl, by decide +kernel, by decide +kernel⟩
theorem len_law_bent {K : PySem.W.Frag} : ∀ vs H Q E, (sp_law_bent K) vs H Q E → vs.length = 2 := fun _ _ _ _ h => spX_len h (by intro as h; first | (obtain ⟨_, rfl, _⟩ := h; rfl) | (obtain ⟨_, _, rfl, _⟩ := h; rfl) | (obtain ⟨_, _, _, rfl, _⟩ := h; rfl) | (obtain ⟨_, _, _, _, rfl, _⟩ := h; rfl))
theorem run_law_bent {K : PySem.W.Frag} {w : World} {vs : List V} {H : Hp} {Q : VK} {E : XK} (h : (sp_law_bent K) vs H Q E) : t_law_bent K w { nx := fun _ H' => Q .non H', rt := Q } (start n_law_bent vs) H :=
  spX_run h (by rw [len_law_bent _ _ _ _ h]; decide) fun as hP E hK => by
    subst hK
    first | (obtain ⟨_, rfl, _⟩ := id hP; exact xs_law_bent _ hP) | (obtain ⟨_, _, rfl, _⟩ := id hP; exact xs_law_bent _ hP) | (obtain ⟨_, _, _, rfl, _⟩ := id hP; exact xs_law_bent _ hP)
section
variable {P : Program} {w : World} {K : PySem.W.Frag} {mg : Str → Option Value} {base : Heap}
theorem ok_law_bent (F : Fd K mg "_law_bent" s_law_bent) (B : Bl mg) : Cl P w K mg base 1 "_law_bent" (sp_law_bent K) := by
  refine cl_of (k := 0) F sc_law_bent len_law_bent (fun _ _ _ _ _ _ us hl => match us, hl with | [_, _], _ => rfl) fun f cdv A outer s H vs Q E hr h => ⟨t_law_bent K w, ?_, run_law_bent h⟩
  exact (pss_cons (ps_set (i := 2) sc_law_bent.nd rfl (by first | exact Or.inl rfl | exact Or.inr rfl) (pe_lst (pa_cons pe_str (pa_cons pe_str (pa_cons pe_str (pa_cons pe_str (pa_cons pe_str (pa_cons pe_str (pa_cons pe_str (pa_cons pe_str (pa_cons pe_str (pa_cons pe_str (pa_cons pe_str (pa_cons pe_str (pa_cons pe_str pa_nil)))))))))))))))
    (pss_cons (ps_set (i := 2) sc_law_bent.nd rfl (by first | exact Or.inl rfl | exact Or.inr rfl) (pe_op op_cat (pv 2) (pe_lst (pa_cons pe_str (pa_cons pe_str (pa_cons pe_str (pa_cons pe_str (pa_cons pe_str (pa_cons pe_str (pa_cons pe_str (pa_cons pe_str (pa_cons pe_str (pa_cons pe_str (pa_cons pe_str (pa_cons pe_str (pa_cons pe_str pa_nil))))))))))))))))
    (pss_cons (ps_set (i := 3) sc_law_bent.nd rfl (by first | exact Or.inl rfl | exact Or.inr rfl) (pe_op op_mod (pe_op op_fdiv (pv 1) pe_int) (pe_op op_add (pe_callB call_len_str (by rfl) B.b_len (by decide +kernel) (pa_cons (pv 0) pa_nil)) pe_int)))
    (pss_cons (ps_set (i := 4) sc_law_bent.nd rfl (by first | exact Or.inl rfl | exact Or.inr rfl) (pe_op op_fdiv (pv 1) pe_int))
    (pss_cons (ps_if (pt_cmpR op_lt (pe_op op_mod (pv 1) pe_int) pe_int (nomark _))
    (pss_one (ps_ret (pe_op op_add_str (pe_op op_add_str (pe_slice sl_str (pv 0) po_none (po_some (pv 3))) (pe_ix ix_str pe_str (pe_op op_mod (pv 4) pe_int) (fun _ _ => rfl))) (pe_slice sl_str (pv 0) (po_some (pv 3)) po_none))))
    pss_nil)
    (pss_cons (ps_if (pt_cmpR op_lt (pe_op op_mod (pv 1) pe_int) pe_int (nomark _))
    (pss_one (ps_ret (pe_op op_add_str (pe_slice sl_str (pv 0) po_none (po_some (pv 3))) (pe_slice sl_str (pv 0) (po_some (pe_op op_add (pv 3) pe_int)) po_none))))
    pss_nil)
    (pss_cons (ps_if (pt_cmpR op_lt (pe_op op_mod (pv 1) pe_int) pe_int (nomark _))
    (pss_one (ps_ret (pe_op op_add_str (pe_op op_add_str (pe_slice sl_str (pv 0) po_none (po_some (pv 3))) (pe_ix ix_str pe_str (pe_op op_mod (pv 4) pe_int) (fun _ _ => rfl))) (pe_slice sl_str (pv 0) (po_some (pe_op op_add (pv 3) pe_int)) po_none))))
    pss_nil)
    (pss_cons (ps_set (i := 5) sc_law_bent.nd rfl (by first | exact Or.inl rfl | exact Or.inr rfl) (pe_split (pv 0) pe_str))
    (pss_cons (ps_set (i := 3) sc_law_bent.nd rfl (by first | exact Or.inl rfl | exact Or.inr rfl) (pe_op op_mod (pe_op op_fdiv (pv 4) pe_int) (pe_op op_add (pe_callB call_len (by rfl) B.b_len (by decide +kernel) (pa_cons (pv 5) pa_nil)) pe_int)))
    (pss_one (ps_ret (pe_join pe_str (pe_op op_cat (pe_op op_cat (pe_slice sl_list (pv 5) po_none (po_some (pv 3))) (pe_lst (pa_cons (pe_ix ix_list (pv 2) (pe_op op_mod (pv 4) pe_int) (fun _ _ => rfl)) pa_nil))) (pe_slice sl_list (pv 5) (po_some (pv 3)) po_none))))))))))))))
end
abbrev s_told11 : Stmt := top 20
abbrev n_told11 : List Str := ["_law_text", "_law_found", "e"]
theorem sc_told11 : FnScope n_told11 ["_law_text"] (defScope s_told11) := ⟨rfl, rfl, rfl, by decide +kernel, rfl, by decide +kernel, by decide +kernel⟩
theorem len_told11 {K : PySem.W.Frag} : ∀ vs H Q E, (sp_told11 K) vs H Q E → vs.length = 1 := fun _ _ _ _ h => spR_len h (by intro as d h; first | (obtain ⟨_, rfl, _⟩ := h; rfl) | (obtain ⟨_, _, rfl, _⟩ := h; rfl) | (obtain ⟨_, _, _, rfl, _⟩ := h; rfl) | (obtain ⟨_, _, _, _, rfl, _⟩ := h; rfl))
theorem run_told11 {K : PySem.W.Frag} {w : World} {mg : Str → Option Value} {xa : XA} (T : XT K mg xa) {vs : List V} {H : Hp} {Q : VK} {E : XK} (h : (sp_told11 K) vs H Q E) : t_told11 K w xa { nx := fun _ H' => Q .non H', rt := Q } (start n_told11 vs) H :=
  spR_run h (by rw [len_told11 _ _ _ _ h]; decide) fun as d hR E hK => by
    subst hK
    obtain ⟨z, rfl, hz, rfl⟩ := hR
    exact (xs_told11 T z hz).imp fun o e => by subst e; exact rfl
section
variable {P : Program} {w : World} {K : PySem.W.Frag} {mg : Str → Option Value} {base : Heap}
theorem ok_told11 (F : Fd K mg "_law_told" s_told11) (B : Bl mg) {xa : XA} (XE : XT K mg xa) (C_readX : ClX P w K mg base 3 "read" (sp_readX K xa)) : Cl P w K mg base 4 "_law_told" (sp_told11 K) := by
  refine cl_of (k := 3) F sc_told11 len_told11 (fun _ _ _ _ _ _ us hl => match us, hl with | [_], _ => rfl) fun f cdv A outer s H vs Q E hr h => ⟨t_told11 K w xa, ?_, run_told11 XE h⟩
  exact (pss_cons (ps_set (i := 1) sc_told11.nd rfl (by first | exact Or.inl rfl | exact Or.inr rfl) pe_non)
    (pss_cons (ps_try_keep (i := 2) (tb := fun W => (tRet (tCallS (sp_readX K xa) (WE W) (tCons (tVar 0) tNil)))) (ts := fun _ _ _ => tAsg (tVar 2) (gName 1)) rfl rfl rfl sc_told11.nd rfl rfl ⟨rfl, (by decide), Or.inl (XE.g .StoneError rfl)⟩ (fun W pn xe tk _ => (pss_one (ps_ret (pe_clS C_readX hr (by decide) rfl tk (pa_cons (pv 0) pa_nil))))) (fun a oe cls d pn hz hf => (pss_one (ps_set (i := 1) sc_told11.nd rfl (by first | exact Or.inl rfl | exact Or.inr rfl) (pv 2)))))
    (pss_cons (ps_if (PW.pt (pw_or (pt_not (pt_val (pe_callB call_isAny (by rfl) B.b_isinstance (by decide +kernel) (pa_cons (pv 1) (pa_cons (pe_glob rfl (XE.g .NoText rfl) rfl) pa_nil))))) (pw_or1 (pt_val (pe_callB call_isAnyT (by rfl) B.b_isinstance (by decide +kernel) (pa_cons (pv 1) (pa_cons (pe_tup (pa_cons (pe_glob rfl (XE.g .NoLaying rfl) rfl) (pa_cons (pe_glob rfl (XE.g .NoStone rfl) rfl) (pa_cons (pe_glob rfl (XE.g .NoStones rfl) rfl) pa_nil)))) pa_nil)))))))
    (pss_one (ps_ret pe_str))
    pss_nil)
    (pss_one (ps_ret pe_str)))))
end
abbrev s_law : Stmt := top 21
abbrev n_law : List Str := ["_law_script", "_law_stones_here", "_law_text", "_law_k", "_law_due", "_law_found", "_law_many", "_law_stone"]
theorem sc_law : FnScope n_law ["_law_script"] (defScope s_law) := ⟨rfl, rfl, rfl, by decide +kernel, rfl, by decide +kernel, by decide +kernel⟩
theorem len_law {K : PySem.W.Frag} : ∀ vs H Q E, (spR K R_law) vs H Q E → vs.length = 1 := fun _ _ _ _ h => spR_len h (by intro as d h; first | (obtain ⟨_, rfl, _⟩ := h; rfl) | (obtain ⟨_, _, rfl, _⟩ := h; rfl) | (obtain ⟨_, _, _, rfl, _⟩ := h; rfl) | (obtain ⟨_, _, _, _, rfl, _⟩ := h; rfl))
theorem run_law {K : PySem.W.Frag} {w : World} {mg : Str → Option Value} {xa : XA} (T : XT K mg xa) {vs : List V} {H : Hp} {Q : VK} {E : XK} (h : (spR K R_law) vs H Q E) : t_law11 K w xa { nx := fun _ H' => Q .non H', rt := Q } (start n_law vs) H :=
  spR_run h (by rw [len_law _ _ _ _ h]; decide) fun as d hR E hK => by
    subst hK
    obtain ⟨ns, rfl, hz, rfl⟩ := hR
    exact (xs_law11 T ns hz).imp fun o e => by subst e; exact rfl
section
variable {P : Program} {w : World} {K : PySem.W.Frag} {mg : Str → Option Value} {base : Heap}
theorem ok_law {f : Addr} {fd : FuncData} (F : Fun K "law" "law" s_law f fd) (B : Bl mg) {xa : XA} (XE : XT K mg xa) (C_stones : Cl P w K mg base 2 "_law_stones" (sp_stones K)) (C_cell : Cl P w K mg base 1 "_law_cell" (sp_cell K)) (C_law_bent : Cl P w K mg base 1 "_law_bent" (sp_law_bent K)) (C_law_read : Cl P w K mg base 2 "_law_read" (sp_law_read K)) (C_told11 : Cl P w K mg base 4 "_law_told" (sp_told11 K)) (C_alike : Cl P w K mg base 4 "_law_alike" (spA K 3)) (C_readX : ClX P w K mg base 3 "read" (sp_readX K xa)) : FnOk P w K mg base CX0 5 f fd ["_law_script"] (spR K R_law) := by
  refine F.ok (k := 4) sc_law len_law fun cdv A outer s H vs Q E hr h => ⟨t_law11 K w xa, ?_, run_law XE h⟩
  exact (pss_cons (ps_set (i := 1) sc_law.nd rfl (by first | exact Or.inl rfl | exact Or.inr rfl) (pe_slice sl_list (pe_cl C_stones hr (by decide) rfl (pa_cons (pv 0) pa_nil)) po_none (po_some pe_int)))
    (pss_cons (ps_set (i := 2) sc_law.nd rfl (by first | exact Or.inl rfl | exact Or.inr rfl) (pe_join pe_str (pe_lc (own := [("_law_stone", 7)]) (g := (gName 7)) rfl sc_law.nd (pi_list (pv 1)) (blkOk_by (own := [("_law_stone", 7)]) (N := n_law) (sc := (defScope s_law)) (by decide +kernel)) (fun _ _ _ _ _ => (pg_name (i := 7) sc_law.nd rfl (by first | exact Or.inl rfl | exact Or.inr rfl))) (fun _ _ _ _ _ => pts_nil) (fun _ _ _ _ _ => (pe_op op_add_str (pe_op op_add_str (pe_callTy call_str_int (by rfl) B.b_str (by decide +kernel) (pa_cons (pe_ix ix_tup (pv 7) pe_int (fun _ _ => rfl)) pa_nil)) pe_str) (pe_callTy call_str_int (by rfl) B.b_str (by decide +kernel) (pa_cons (pe_ix ix_tup (pv 7) pe_int (fun _ _ => rfl)) pa_nil)))))))
    (pss_cons (ps_for PassesOwn.never rfl (pi_range1 (by rfl) B.b_range (pa_cons (pe_op op_add pe_int (pe_op op_mod (pe_cl C_cell hr (by decide) rfl (pa_cons (pv 0) (pa_cons pe_int pa_nil))) pe_int)) pa_nil)) (pg_name (i := 3) sc_law.nd rfl (by first | exact Or.inl rfl | exact Or.inr rfl))
    (pss_one (ps_set (i := 2) sc_law.nd rfl (by first | exact Or.inl rfl | exact Or.inr rfl) (pe_cl C_law_bent hr (by decide) rfl (pa_cons (pv 2) (pa_cons (pe_cl C_cell hr (by decide) rfl (pa_cons (pv 0) (pa_cons (pe_op op_add pe_int (pv 3)) pa_nil))) pa_nil))))))
    (pss_cons (ps_set (i := 4) sc_law.nd rfl (by first | exact Or.inl rfl | exact Or.inr rfl) (pe_cl C_law_read hr (by decide) rfl (pa_cons (pv 2) pa_nil)))
    (pss_cons (ps_for PassesOwn.never rfl (pi_range1 (by rfl) B.b_range (pa_cons pe_int pa_nil)) (pg_name (i := 3) sc_law.nd rfl (by first | exact Or.inl rfl | exact Or.inr rfl))
    (pss_cons (ps_set (i := 5) sc_law.nd rfl (by first | exact Or.inl rfl | exact Or.inr rfl) (pe_cl C_told11 hr (by decide) rfl (pa_cons (pv 2) pa_nil)))
    (pss_one (ps_if (PW.pt (pw_or (PW.pt (pw_and (pt_cmpR op_isN (pv 4) pe_non (nomark _)) (pw_and1 (pt_cmpR (op_neD hr.units) (pv 5) pe_str (nomark _))))) (pw_or1 (PW.pt (pw_and (pt_cmpR op_notN (pv 4) pe_non (nomark _)) (pw_and1 (pt_not (pt_val (pe_cl C_alike hr (by decide) rfl (pa_cons (pv 5) (pa_cons (pv 4) pa_nil)))))))))))
    (pss_one (ps_ret pe_bl))
    pss_nil))))
    (pss_cons (ps_set (i := 6) sc_law.nd rfl (by first | exact Or.inl rfl | exact Or.inr rfl) (pe_join pe_str (pe_op op_rep (pe_lst (pa_cons pe_str pa_nil)) pe_int)))
    (pss_one (ps_ret (pe_and (pe_cmpR op_eq (pe_callB call_len (by rfl) B.b_len (by decide +kernel) (pa_cons (pe_clX0 C_readX hr (by decide) rfl (pa_cons (pv 6) pa_nil)) pa_nil)) pe_int (nomark _)) (pe_one (pe_cmpR (op_eqD hr.units) (pe_cl C_told11 hr (by decide) rfl (pa_cons (pe_op op_add_str (pv 6) pe_str) pa_nil)) pe_str (nomark _))))))))))))
end
theorem all_mk {P : Program} {w : World} {K : PySem.W.Frag} {h : Heap} {mg : Str → Option Value} {fa : Addr} (X : K.In h) (G : h.Ns mainGlobals mg) (hfa : mg "law" = some (.ref fa))
    {f0 : Addr} {od0 an0 : Option Addr} {sl0 : Array (Option Value)} {oc0 kV0 dc0 pm0 cd0 ct0 : Value}
    {f1 : Addr} {od1 an1 : Option Addr} {sl1 : Array (Option Value)} {oc1 kV1 dc1 pm1 cd1 ct1 : Value}
    {f2 : Addr} {od2 an2 : Option Addr} {sl2 : Array (Option Value)} {oc2 kV2 dc2 pm2 cd2 ct2 : Value}
    {f3 : Addr} {od3 an3 : Option Addr} {sl3 : Array (Option Value)} {oc3 kV3 dc3 pm3 cd3 ct3 : Value}
    {f4 : Addr} {od4 an4 : Option Addr} {sl4 : Array (Option Value)} {oc4 kV4 dc4 pm4 cd4 ct4 : Value}
    {f5 : Addr} {od5 an5 : Option Addr} {sl5 : Array (Option Value)} {oc5 kV5 dc5 pm5 cd5 ct5 : Value}
    {f6 : Addr} {od6 an6 : Option Addr} {sl6 : Array (Option Value)} {oc6 kV6 dc6 pm6 cd6 ct6 : Value}
    {f7 : Addr} {od7 an7 : Option Addr} {sl7 : Array (Option Value)} {oc7 kV7 dc7 pm7 cd7 ct7 : Value}
    {f8 : Addr} {od8 an8 : Option Addr} {sl8 : Array (Option Value)} {oc8 kV8 dc8 pm8 cd8 ct8 : Value}
    {f9 : Addr} {od9 an9 : Option Addr} {sl9 : Array (Option Value)} {oc9 kV9 dc9 pm9 cd9 ct9 : Value}
    {f10 : Addr} {od10 an10 : Option Addr} {sl10 : Array (Option Value)} {oc10 kV10 dc10 pm10 cd10 ct10 : Value}
    {t_MOST_STONES : Tok}
    {t_FIGURES : Tok}
    {t_MOST_FIGURES : Tok}
    {x0 x1 x2 x3 x9 : Addr}
    (a0 : PySem.W.nsIn K mainGlobals "number_of" = some (some (.ref f0))) (l0 : K.lookup f0 = some ⟨oc0, od0, .func (PySem.W.fnOf "number_of" "number_of" (defArgs s_number_ofX) (defBody s_number_ofX) (defScope s_number_ofX) .none kV0 dc0 pm0 an0 cd0 ct0), sl0⟩) (c0 : PySem.W.codeIn K cd0 "number_of" = true) (k0 : PySem.W.keepIn K (.ref f0) = true)
    (a1 : PySem.W.nsIn K mainGlobals "stone_of" = some (some (.ref f1))) (l1 : K.lookup f1 = some ⟨oc1, od1, .func (PySem.W.fnOf "stone_of" "stone_of" (defArgs s_stone_ofX) (defBody s_stone_ofX) (defScope s_stone_ofX) .none kV1 dc1 pm1 an1 cd1 ct1), sl1⟩) (c1 : PySem.W.codeIn K cd1 "stone_of" = true) (k1 : PySem.W.keepIn K (.ref f1) = true)
    (a2 : PySem.W.nsIn K mainGlobals "read" = some (some (.ref f2))) (l2 : K.lookup f2 = some ⟨oc2, od2, .func (PySem.W.fnOf "read" "read" (defArgs s_readX) (defBody s_readX) (defScope s_readX) .none kV2 dc2 pm2 an2 cd2 ct2), sl2⟩) (c2 : PySem.W.codeIn K cd2 "read" = true) (k2 : PySem.W.keepIn K (.ref f2) = true)
    (a3 : PySem.W.nsIn K mainGlobals "_law_cell" = some (some (.ref f3))) (l3 : K.lookup f3 = some ⟨oc3, od3, .func (PySem.W.fnOf "_law_cell" "_law_cell" (defArgs s_cell) (defBody s_cell) (defScope s_cell) .none kV3 dc3 pm3 an3 cd3 ct3), sl3⟩) (c3 : PySem.W.codeIn K cd3 "_law_cell" = true) (k3 : PySem.W.keepIn K (.ref f3) = true)
    (a4 : PySem.W.nsIn K mainGlobals "_law_stones" = some (some (.ref f4))) (l4 : K.lookup f4 = some ⟨oc4, od4, .func (PySem.W.fnOf "_law_stones" "_law_stones" (defArgs s_stones) (defBody s_stones) (defScope s_stones) .none kV4 dc4 pm4 an4 cd4 ct4), sl4⟩) (c4 : PySem.W.codeIn K cd4 "_law_stones" = true) (k4 : PySem.W.keepIn K (.ref f4) = true)
    (a5 : PySem.W.nsIn K mainGlobals "_law_alike" = some (some (.ref f5))) (l5 : K.lookup f5 = some ⟨oc5, od5, .func (PySem.W.fnOf "_law_alike" "_law_alike" (defArgs s_alike) (defBody s_alike) (defScope s_alike) .none kV5 dc5 pm5 an5 cd5 ct5), sl5⟩) (c5 : PySem.W.codeIn K cd5 "_law_alike" = true) (k5 : PySem.W.keepIn K (.ref f5) = true)
    (a6 : PySem.W.nsIn K mainGlobals "_law_number" = some (some (.ref f6))) (l6 : K.lookup f6 = some ⟨oc6, od6, .func (PySem.W.fnOf "_law_number" "_law_number" (defArgs s_law_number) (defBody s_law_number) (defScope s_law_number) .none kV6 dc6 pm6 an6 cd6 ct6), sl6⟩) (c6 : PySem.W.codeIn K cd6 "_law_number" = true) (k6 : PySem.W.keepIn K (.ref f6) = true)
    (a7 : PySem.W.nsIn K mainGlobals "_law_read" = some (some (.ref f7))) (l7 : K.lookup f7 = some ⟨oc7, od7, .func (PySem.W.fnOf "_law_read" "_law_read" (defArgs s_law_read) (defBody s_law_read) (defScope s_law_read) .none kV7 dc7 pm7 an7 cd7 ct7), sl7⟩) (c7 : PySem.W.codeIn K cd7 "_law_read" = true) (k7 : PySem.W.keepIn K (.ref f7) = true)
    (a8 : PySem.W.nsIn K mainGlobals "_law_bent" = some (some (.ref f8))) (l8 : K.lookup f8 = some ⟨oc8, od8, .func (PySem.W.fnOf "_law_bent" "_law_bent" (defArgs s_law_bent) (defBody s_law_bent) (defScope s_law_bent) .none kV8 dc8 pm8 an8 cd8 ct8), sl8⟩) (c8 : PySem.W.codeIn K cd8 "_law_bent" = true) (k8 : PySem.W.keepIn K (.ref f8) = true)
    (a9 : PySem.W.nsIn K mainGlobals "_law_told" = some (some (.ref f9))) (l9 : K.lookup f9 = some ⟨oc9, od9, .func (PySem.W.fnOf "_law_told" "_law_told" (defArgs s_told11) (defBody s_told11) (defScope s_told11) .none kV9 dc9 pm9 an9 cd9 ct9), sl9⟩) (c9 : PySem.W.codeIn K cd9 "_law_told" = true) (k9 : PySem.W.keepIn K (.ref f9) = true)
    (a10 : PySem.W.nsIn K mainGlobals "law" = some (some (.ref f10))) (l10 : K.lookup f10 = some ⟨oc10, od10, .func (PySem.W.fnOf "law" "law" (defArgs s_law) (defBody s_law) (defScope s_law) .none kV10 dc10 pm10 an10 cd10 ct10), sl10⟩) (c10 : PySem.W.codeIn K cd10 "law" = true) (k10 : PySem.W.keepIn K (.ref f10) = true)
    (b_all : PySem.W.nsIn K mainGlobals "all" = some none)
    (b_bool : PySem.W.nsIn K mainGlobals "bool" = some none)
    (b_int : PySem.W.nsIn K mainGlobals "int" = some none)
    (b_isinstance : PySem.W.nsIn K mainGlobals "isinstance" = some none)
    (b_len : PySem.W.nsIn K mainGlobals "len" = some none)
    (b_list : PySem.W.nsIn K mainGlobals "list" = some none)
    (b_max : PySem.W.nsIn K mainGlobals "max" = some none)
    (b_min : PySem.W.nsIn K mainGlobals "min" = some none)
    (b_range : PySem.W.nsIn K mainGlobals "range" = some none)
    (b_str : PySem.W.nsIn K mainGlobals "str" = some none)
    (b_tuple : PySem.W.nsIn K mainGlobals "tuple" = some none)
    (c_MOST_STONES : PySem.W.nsIn K mainGlobals "MOST_STONES" = some (some (.int 60 t_MOST_STONES)))
    (c_FIGURES : PySem.W.nsIn K mainGlobals "FIGURES" = some (some (.str (Str.ofString "0123456789") t_FIGURES)))
    (c_MOST_FIGURES : PySem.W.nsIn K mainGlobals "MOST_FIGURES" = some (some (.int 6 t_MOST_FIGURES)))
    (g_StoneError : PySem.W.nsIn K mainGlobals "StoneError" = some (some (.ref x0)))
    (g_NoStones : PySem.W.nsIn K mainGlobals "NoStones" = some (some (.ref x1)))
    (g_NoStone : PySem.W.nsIn K mainGlobals "NoStone" = some (some (.ref x2)))
    (g_NoLaying : PySem.W.nsIn K mainGlobals "NoLaying" = some (some (.ref x3)))
    (g_NoText : PySem.W.nsIn K mainGlobals "NoText" = some (some (.ref x9)))
    (xk : ∀ c : Xn, xnOn c = true → PySem.W.keepIn K (.ref ((mkXA x0 x1 x2 x3 0 0 0 0 0 x9) c)) = true)
    (xg : ∀ c : Xn, xnOn c = true → PySem.W.findIn K (.ref ((mkXA x0 x1 x2 x3 0 0 0 0 0 x9) c)) "__getattribute__" = some (some (.builtin "BaseException.__getattribute__")))
    (xh : ∀ c : Xn, xnOn c = true → PySem.W.findIn K (.ref ((mkXA x0 x1 x2 x3 0 0 0 0 0 x9) c)) "__getattr__" = some none)
    (xb : ∀ c : Xn, xnOn c = true → PySem.W.subIn K (.ref ((mkXA x0 x1 x2 x3 0 0 0 0 0 x9) c)) (.type "BaseException") = some true)
    (xd : ∀ c : Xn, xnOn c = true → PySem.W.hasDictIn K ((mkXA x0 x1 x2 x3 0 0 0 0 0 x9) c) = true)
    (xc : ∀ c : Xn, xnOn c = true → PySem.W.findIn K (.ref ((mkXA x0 x1 x2 x3 0 0 0 0 0 x9) c)) "__class__" = some (some (.builtin "object.__class__")))
    (xm : ∀ c : Xn, xnOn c = true → PySem.W.mroIn K ((mkXA x0 x1 x2 x3 0 0 0 0 0 x9) c) (.type "object") = some true)
    (xt : ∀ c : Xn, xnOn c = true → PySem.W.typeIn K (.ref ((mkXA x0 x1 x2 x3 0 0 0 0 0 x9) c)) = some (.type "type"))
    (xi : ∀ c : Xn, xnOn c = true → PySem.W.isClsIn K ((mkXA x0 x1 x2 x3 0 0 0 0 0 x9) c) = true)
    (xe : ∀ c : Xn, xnOn c = true → PySem.W.excIn K ((mkXA x0 x1 x2 x3 0 0 0 0 0 x9) c) veMro "ValueError.__new__" = true)
    (xv : ∀ c : Xn, xnOn c = true → PySem.W.subIn K (.ref ((mkXA x0 x1 x2 x3 0 0 0 0 0 x9) c)) (.type "ValueError") = some true)
    (xn : ∀ c : Xn, xnOn c = true → PySem.W.subIn K (.type "NoneType") (.ref ((mkXA x0 x1 x2 x3 0 0 0 0 0 x9) c)) = some false)
    (xs : ∀ c d : Xn, xnOn c = true → xnOn d = true → PySem.W.subIn K (.ref ((mkXA x0 x1 x2 x3 0 0 0 0 0 x9) c)) (.ref ((mkXA x0 x1 x2 x3 0 0 0 0 0 x9) d)) = some (Xn.sub c d))
    (xp : PySem.W.specialIn K (.builtin "object.__class__") "__get__" = some (some (.builtin "getset_descriptor.__get__")))
    (xq : PySem.W.takesIn K (.builtin "object.__class__") = some true) :
    ∃ fd : FuncData, (∀ (s : Shared) (v : Value), BindsTo s fd ⟨[v], []⟩ [("_law_script", v)]) ∧ ∀ base : Heap, K.In base → base.Ns mainGlobals mg → FnOk P w K mg base CX0 5 fa fd ["_law_script"] (spR K R_law) := by
  have e := hfa.symm.trans (PySem.W.mg_of X G a10)
  cases e
  have B : Bl mg := { b_all := PySem.W.mg_none_of X G b_all, b_bool := PySem.W.mg_none_of X G b_bool, b_int := PySem.W.mg_none_of X G b_int, b_isinstance := PySem.W.mg_none_of X G b_isinstance, b_len := PySem.W.mg_none_of X G b_len, b_list := PySem.W.mg_none_of X G b_list, b_max := PySem.W.mg_none_of X G b_max, b_min := PySem.W.mg_none_of X G b_min, b_range := PySem.W.mg_none_of X G b_range, b_str := PySem.W.mg_none_of X G b_str, b_tuple := PySem.W.mg_none_of X G b_tuple, t_MOST_STONES := t_MOST_STONES, c_MOST_STONES := PySem.W.mg_of X G c_MOST_STONES, t_FIGURES := t_FIGURES, c_FIGURES := PySem.W.mg_of X G c_FIGURES, t_MOST_FIGURES := t_MOST_FIGURES, c_MOST_FIGURES := PySem.W.mg_of X G c_MOST_FIGURES }
  have XE : XT K mg (mkXA x0 x1 x2 x3 0 0 0 0 0 x9) := ⟨fun c h => by cases c <;> (first | (exact absurd h (by decide)) | exact PySem.W.mg_of X G g_StoneError | exact PySem.W.mg_of X G g_NoStones | exact PySem.W.mg_of X G g_NoStone | exact PySem.W.mg_of X G g_NoLaying | exact PySem.W.mg_of X G g_NoText), xk, fun c h => ⟨xg c h, xh c h, xb c h, xd c h, xc c h, xp, xq, xm c h⟩, xt, xi, xe, xs, xv, xn⟩
  have FL := fun_mk (x := "law") (st := s_law) l10 c10 k10
  refine ⟨PySem.W.fnOf "law" "law" (defArgs s_law) (defBody s_law) (defScope s_law) .none kV10 dc10 pm10 an10 cd10 ct10, fun s v => .of_eq rfl, fun base _ _ => ?_⟩
  have C_number_ofX := ok_number_ofX (P := P) (w := w) (base := base) (fd_mk (x := "number_of") (st := s_number_ofX) X G a0 l0 c0 k0) B XE 
  have C_stone_ofX := ok_stone_ofX (P := P) (w := w) (base := base) (fd_mk (x := "stone_of") (st := s_stone_ofX) X G a1 l1 c1 k1) B XE C_number_ofX
  have C_readX := ok_readX (P := P) (w := w) (base := base) (fd_mk (x := "read") (st := s_readX) X G a2 l2 c2 k2) B XE C_stone_ofX
  have C_cell := ok_cell (P := P) (w := w) (base := base) (fd_mk (x := "_law_cell") (st := s_cell) X G a3 l3 c3 k3) B 
  have C_stones := ok_stones (P := P) (w := w) (base := base) (fd_mk (x := "_law_stones") (st := s_stones) X G a4 l4 c4 k4) B C_cell
  have C_alike := ok_alike (P := P) (w := w) (base := base) (fd_mk (x := "_law_alike") (st := s_alike) X G a5 l5 c5 k5) B 3
  have C_law_number := ok_law_number (P := P) (w := w) (base := base) (fd_mk (x := "_law_number") (st := s_law_number) X G a6 l6 c6 k6) B 
  have C_law_read := ok_law_read (P := P) (w := w) (base := base) (fd_mk (x := "_law_read") (st := s_law_read) X G a7 l7 c7 k7) B C_law_number
  have C_law_bent := ok_law_bent (P := P) (w := w) (base := base) (fd_mk (x := "_law_bent") (st := s_law_bent) X G a8 l8 c8 k8) B 
  have C_told11 := ok_told11 (P := P) (w := w) (base := base) (fd_mk (x := "_law_told") (st := s_told11) X G a9 l9 c9 k9) B XE C_readX
  exact ok_law FL B XE C_stones C_cell C_law_bent C_law_read C_told11 C_alike C_readX
theorem walk {l : PySem.W.OpenLaw} {q : Program} {loose : List Str} {XP : (Str → Option Value) → Heap → Prop} {YP : World → Heap → Prop} {d : DefRec} {K : Params → PySem.W.Frag} (hn : l.most = some 63) (hdf : d.params.defaults = [])
    (hY : ∀ (w : World) (h : Heap), YP w h → (K w.params).In h)
    (F : ∀ (w : World) (mg : Str → Option Value) (fa : Addr) (h : Heap), (K w.params).In h → h.Ns mainGlobals mg → mg d.name = some (.ref fa) →
      ∃ fd : FuncData, (∀ (s : Shared) (u : Value), BindsTo s fd ⟨[u], []⟩ [("_law_script", u)]) ∧ ∀ base : Heap, (K w.params).In base → base.Ns mainGlobals mg → FnOk l.prog w (K w.params) mg base CX0 5 fa fd ["_law_script"] (spR (K w.params) R_law)) :
    PySem.W.WalkO q loose XP YP l.row.toRowW d [] (fun f vs => PySem.call f vs) :=
  L2.walk_of (n := 63) (k := 5) (x := "_law_script") (CX := fun _ => CX0) (sp := fun w => spR (K w.params) R_law) hn (by decide) hdf ⟨rfl, by decide, by decide⟩ hY F
    (fun _ _ a ns hl _ hS => ⟨none0, [.s ns], .bool true, fun _ _ z => (nomatch z), ⟨_, [], rfl, ⟨a, rfl, hS⟩, rfl⟩, ⟨ns, rfl, hl, rfl⟩, fun _ _ _ _ r => r⟩) fun _ _ _ _ _ z => z
end PL
open PySem PySem.W PyProof.Rows
set_option maxRecDepth 100000 in
set_option maxHeartbeats 0 in
theorem PySem.Challenge.cw_stonerow_k11_texts_refused_holds : PySem.Challenge.rw_stonerow_k11_texts_refused.Holds := by
  w_on; o_law; k_head; (case hw => w_witness2)
  k_fill
  refine PL.walk (l := PySem.Challenge.rw_stonerow_k11_texts_refused) rfl rfl (fun w h Y => PySem.W.kIn_of Y) ?F
  case F =>
    intro w mg fa h KX G hmg
    refine' PL.all_mk KX G hmg ?a0 ?l0 ?c0 ?k0 ?a1 ?l1 ?c1 ?k1 ?a2 ?l2 ?c2 ?k2 ?a3 ?l3 ?c3 ?k3 ?a4 ?l4 ?c4 ?k4 ?a5 ?l5 ?c5 ?k5 ?a6 ?l6 ?c6 ?k6 ?a7 ?l7 ?c7 ?k7 ?a8 ?l8 ?c8 ?k8 ?a9 ?l9 ?c9 ?k9 ?a10 ?l10 ?c10 ?k10 ?b_all ?b_bool ?b_int ?b_isinstance ?b_len ?b_list ?b_max ?b_min ?b_range ?b_str ?b_tuple ?c_MOST_STONES ?c_FIGURES ?c_MOST_FIGURES ?g_StoneError ?g_NoStones ?g_NoStone ?g_NoLaying ?g_NoText ?xk ?xg ?xh ?xb ?xd ?xc ?xm ?xt ?xi ?xe ?xv ?xn ?xs ?xp ?xq
    (case a0 => k_is)
    (case l0 => k_is)
    (case c0 => k_is)
    (case k0 => k_is)
    (case a1 => k_is)
    (case l1 => k_is)
    (case c1 => k_is)
    (case k1 => k_is)
    (case a2 => k_is)
    (case l2 => k_is)
    (case c2 => k_is)
    (case k2 => k_is)
    (case a3 => k_is)
    (case l3 => k_is)
    (case c3 => k_is)
    (case k3 => k_is)
    (case a4 => k_is)
    (case l4 => k_is)
    (case c4 => k_is)
    (case k4 => k_is)
    (case a5 => k_is)
    (case l5 => k_is)
    (case c5 => k_is)
    (case k5 => k_is)
    (case a6 => k_is)
    (case l6 => k_is)
    (case c6 => k_is)
    (case k6 => k_is)
    (case a7 => k_is)
    (case l7 => k_is)
    (case c7 => k_is)
    (case k7 => k_is)
    (case a8 => k_is)
    (case l8 => k_is)
    (case c8 => k_is)
    (case k8 => k_is)
    (case a9 => k_is)
    (case l9 => k_is)
    (case c9 => k_is)
    (case k9 => k_is)
    (case a10 => k_is)
    (case l10 => k_is)
    (case c10 => k_is)
    (case k10 => k_is)
    (case b_all => k_is)
    (case b_bool => k_is)
    (case b_int => k_is)
    (case b_isinstance => k_is)
    (case b_len => k_is)
    (case b_list => k_is)
    (case b_max => k_is)
    (case b_min => k_is)
    (case b_range => k_is)
    (case b_str => k_is)
    (case b_tuple => k_is)
    (case c_MOST_STONES => k_is)
    (case c_FIGURES => k_is)
    (case c_MOST_FIGURES => k_is)
    (case g_StoneError => k_is)
    (case g_NoStones => k_is)
    (case g_NoStone => k_is)
    (case g_NoLaying => k_is)
    (case g_NoText => k_is)
    (case xk => intro c h; cases c <;> (first | (exact absurd h (by decide)) | (dsimp only [PL.mkXA]; k_is)))
    (case xg => intro c h; cases c <;> (first | (exact absurd h (by decide)) | (dsimp only [PL.mkXA]; k_is)))
    (case xh => intro c h; cases c <;> (first | (exact absurd h (by decide)) | (dsimp only [PL.mkXA]; k_is)))
    (case xb => intro c h; cases c <;> (first | (exact absurd h (by decide)) | (dsimp only [PL.mkXA]; k_is)))
    (case xd => intro c h; cases c <;> (first | (exact absurd h (by decide)) | (dsimp only [PL.mkXA]; k_is)))
    (case xc => intro c h; cases c <;> (first | (exact absurd h (by decide)) | (dsimp only [PL.mkXA]; k_is)))
    (case xm => intro c h; cases c <;> (first | (exact absurd h (by decide)) | (dsimp only [PL.mkXA]; k_is)))
    (case xt => intro c h; cases c <;> (first | (exact absurd h (by decide)) | (dsimp only [PL.mkXA]; k_is)))
    (case xi => intro c h; cases c <;> (first | (exact absurd h (by decide)) | (dsimp only [PL.mkXA]; k_is)))
    (case xe => intro c h; cases c <;> (first | (exact absurd h (by decide)) | (dsimp only [PL.mkXA]; k_exc)))
    (case xv => intro c h; cases c <;> (first | (exact absurd h (by decide)) | (dsimp only [PL.mkXA]; k_is)))
    (case xn => intro c h; cases c <;> (first | (exact absurd h (by decide)) | (dsimp only [PL.mkXA]; k_is)))
    (case xs => intro c d h h2; cases c <;> cases d <;> (first | (exact absurd h (by decide)) | (exact absurd h2 (by decide)) | (dsimp only [PL.mkXA, PL.Xn.sub]; first | rfl | k_is)))
    (case xp => k_is)
    (case xq => k_is)
#print axioms PySem.Challenge.cw_stonerow_k11_texts_refused_holds
