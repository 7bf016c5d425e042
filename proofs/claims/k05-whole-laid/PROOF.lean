import PyProof.Rows.All
import Wide.All
import OpenK.AllK
import Wide.FinOn
import HandS.ForMost
import HandS.Walk
import HandS.IsInst
import HandS.SetFor
import HandS.SortInts
import HandS.Strs
import HandS.TupAny
import HandS.Conv
import HandS.Style
import HandS.Ends
import HandS.Words
import HandS.NamedTupSort
import KE.LtData
import HandS.TupLe
import HandS.Text
import HandS.Exc
import HandS.ExcOwn
import HandS.WordsExc
import HandS.ExcValue
import HandS.ExcIs
import HandS.DictComp
import PySem.Challenge.RW_stonerow_k05_whole_laid
set_option Elab.async false
set_option linter.all false
set_option maxRecDepth 100000
set_option maxHeartbeats 8000000
/-! PCore: pure data over the hand layer: Rp (a value bears a datum), the state St, the judgements Ev, Et, Ea, Xs. -/
namespace PL
open PySem L2
abbrev D := PyData

/-- the key's datum -/
def kD : Key → D
  | .inl i => .int i
  | .inr x => .str x
mutual
/-- in the heap G the value bears the datum -/
def Rp (G : Hp) : D → V → Prop
  | .none, v => v = .non
  | .bool b, v => v = .bl b
  | .int i, v => v = .int i
  | .str s, v => v = .str s
  | .list ds, v => ∃ a vs, v = .ref a ∧ G a = some (.lst vs) ∧ RpA G ds vs
  | .tuple ds, v => ∃ a vs, v = .ref a ∧ G a = some (.tup vs) ∧ RpA G ds vs
  | .dict kvs, v => ∃ a ks, v = .ref a ∧ G a = some (.dK ks) ∧ RpD G kvs ks
def RpA (G : Hp) : List D → List V → Prop
  | [], vs => vs = []
  | d :: ds, vs => ∃ v r, vs = v :: r ∧ Rp G d v ∧ RpA G ds r
def RpD (G : Hp) : List (D × D) → List (Key × V) → Prop
  | [], ks => ks = []
  | (kd, d) :: ps, ks => ∃ k v r, ks = (k, v) :: r ∧ kD k = kd ∧ Rp G d v ∧ RpD G ps r
end
mutual
theorem Rp.mono {G G' : Hp} (e : Same G G') : ∀ (d : D) (v : V), Rp G d v → Rp G' d v
  | .none, _, h => h
  | .bool _, _, h => h
  | .int _, _, h => h
  | .str _, _, h => h
  | .list ds, _, ⟨a, vs, h1, h2, h3⟩ => ⟨a, vs, h1, e _ _ h2, RpA.mono e ds vs h3⟩
  | .tuple ds, _, ⟨a, vs, h1, h2, h3⟩ => ⟨a, vs, h1, e _ _ h2, RpA.mono e ds vs h3⟩
  | .dict kvs, _, ⟨a, ks, h1, h2, h3⟩ => ⟨a, ks, h1, e _ _ h2, RpD.mono e kvs ks h3⟩
theorem RpA.mono {G G' : Hp} (e : Same G G') : ∀ (ds : List D) (vs : List V), RpA G ds vs → RpA G' ds vs
  | [], _, h => h
  | d :: ds, _, ⟨v, r, h1, h2, h3⟩ => ⟨v, r, h1, Rp.mono e d v h2, RpA.mono e ds r h3⟩
theorem RpD.mono {G G' : Hp} (e : Same G G') : ∀ (kvs : List (D × D)) (ks : List (Key × V)), RpD G kvs ks → RpD G' kvs ks
  | [], _, h => h
  | (kd, d) :: ps, _, ⟨k, v, r, h1, h2, h3, h4⟩ => ⟨k, v, r, h1, h2, Rp.mono e d v h3, RpD.mono e ps r h4⟩
end

/-! ### lists of data -/
theorem RpA.len {G : Hp} : ∀ {ds : List D} {vs : List V}, RpA G ds vs → vs.length = ds.length
  | [], _, h => by cases h; rfl
  | _ :: _, _, ⟨_, _, h1, _, h3⟩ => by subst h1; simp [RpA.len h3]
theorem RpA.get {G : Hp} : ∀ {ds : List D} {vs : List V} {i : Nat} {d : D}, RpA G ds vs → ds[i]? = some d → ∃ v, vs[i]? = some v ∧ Rp G d v
  | [], _, _, _, _, e => by simp at e
  | _ :: _, _, 0, _, ⟨v, _, h1, h2, _⟩, e => by subst h1; simp at e; subst e; exact ⟨v, rfl, h2⟩
  | _ :: _, _, i + 1, _, ⟨_, _, h1, _, h3⟩, e => by
    subst h1
    obtain ⟨v, q1, q2⟩ := RpA.get (i := i) h3 (by simpa using e)
    exact ⟨v, by simpa using q1, q2⟩
theorem RpA.append {G : Hp} : ∀ {ds es : List D} {vs us : List V}, RpA G ds vs → RpA G es us → RpA G (ds ++ es) (vs ++ us)
  | [], _, _, _, h, k => by cases h; exact k
  | _ :: _, _, _, _, ⟨v, r, h1, h2, h3⟩, k => by subst h1; exact ⟨v, r ++ _, rfl, h2, RpA.append h3 k⟩
theorem RpA.one {G : Hp} {d : D} {v : V} (h : Rp G d v) : RpA G [d] [v] := ⟨v, [], rfl, h, rfl⟩
theorem RpA.snoc {G : Hp} {ds : List D} {d : D} {vs : List V} {v : V} (h : RpA G ds vs) (k : Rp G d v) : RpA G (ds ++ [d]) (vs ++ [v]) := h.append (.one k)
theorem RpA.take {G : Hp} : ∀ {ds : List D} {vs : List V} (n : Nat), RpA G ds vs → RpA G (ds.take n) (vs.take n)
  | _, _, 0, _ => by simp [RpA]
  | [], _, _ + 1, h => by cases h; simp [RpA]
  | _ :: _, _, n + 1, ⟨v, r, h1, h2, h3⟩ => by subst h1; exact ⟨v, _, rfl, h2, RpA.take n h3⟩
theorem RpA.drop {G : Hp} : ∀ {ds : List D} {vs : List V} (n : Nat), RpA G ds vs → RpA G (ds.drop n) (vs.drop n)
  | _, _, 0, h => by simpa using h
  | [], _, _ + 1, h => by cases h; simp [RpA]
  | _ :: _, _, n + 1, ⟨_, _, h1, _, h3⟩ => by subst h1; simpa using RpA.drop n h3
theorem RpA.set {G : Hp} {d : D} {v : V} (k : Rp G d v) : ∀ {ds : List D} {vs : List V} (n : Nat), RpA G ds vs → RpA G (ds.set n d) (vs.set n v)
  | [], _, _, h => by cases h; simp [RpA]
  | _ :: _, _, 0, ⟨_, r, h1, _, h3⟩ => by subst h1; exact ⟨v, r, rfl, k, h3⟩
  | _ :: _, _, n + 1, ⟨w, _, h1, h2, h3⟩ => by subst h1; exact ⟨w, _, rfl, h2, RpA.set k n h3⟩
theorem RpA.eraseIdx {G : Hp} : ∀ {ds : List D} {vs : List V} (n : Nat), RpA G ds vs → RpA G (ds.eraseIdx n) (vs.eraseIdx n)
  | [], _, _, h => by cases h; simp [RpA]
  | _ :: _, _, 0, ⟨_, r, h1, _, h3⟩ => by subst h1; exact h3
  | _ :: _, _, n + 1, ⟨w, _, h1, h2, h3⟩ => by subst h1; exact ⟨w, _, rfl, h2, RpA.eraseIdx n h3⟩
theorem RpA.reverse {G : Hp} : ∀ {ds : List D} {vs : List V}, RpA G ds vs → RpA G ds.reverse vs.reverse
  | [], _, h => by cases h; simp [RpA]
  | d :: ds, _, ⟨v, r, h1, h2, h3⟩ => by
    subst h1
    rw [List.reverse_cons, List.reverse_cons]
    exact (RpA.reverse h3).snoc h2
/-- ints -/
theorem RpA.ints {G : Hp} : ∀ (ns : List Int), RpA G (ns.map PyData.int) (ns.map V.int)
  | [] => rfl
  | n :: ns => ⟨_, _, rfl, rfl, RpA.ints ns⟩
theorem RpA.of_ints {G : Hp} : ∀ {ns : List Int} {vs : List V}, RpA G (ns.map PyData.int) vs → vs = ns.map V.int
  | [], _, h => h
  | n :: ns, _, ⟨_, _, h1, h2, h3⟩ => by
    have h2 : _ = V.int n := h2
    subst h1 h2
    rw [RpA.of_ints h3]
    rfl
theorem RpA.strs {G : Hp} : ∀ (ns : List Str), RpA G (ns.map PyData.str) (ns.map V.str)
  | [] => rfl
  | n :: ns => ⟨_, _, rfl, rfl, RpA.strs ns⟩
theorem RpA.of_strs {G : Hp} : ∀ {ns : List Str} {vs : List V}, RpA G (ns.map PyData.str) vs → vs = ns.map V.str
  | [], _, h => h
  | n :: ns, _, ⟨_, _, h1, h2, h3⟩ => by
    have h2 : _ = V.str n := h2
    subst h1 h2
    rw [RpA.of_strs h3]
    rfl
theorem RpA.of_bools {G : Hp} : ∀ {ns : List Bool} {vs : List V}, RpA G (ns.map PyData.bool) vs → vs = ns.map V.bl
  | [], _, h => h
  | n :: ns, _, ⟨_, _, h1, h2, h3⟩ => by
    have h2 : _ = V.bl n := h2
    subst h1 h2
    rw [RpA.of_bools h3]
    rfl

/-! ### growth -/
theorem same_new {H : Hp} {p : Addr} {o : HO} (h : H p = none) : Same H (upd H p o) := fun a u e => by
  rw [upd_ne (ne_of_none e h)]
  exact e
theorem same_mut {H H' : Hp} {p : Addr} {o : HO} (e : Same H H') (h : H p = none) : Same H (upd H' p o) := fun a u ha => by
  rw [upd_ne (ne_of_none ha h)]
  exact e a u ha
/-- from G within H to G2 within H2: what G2 has more is new to H -/
structure Gr (G H G2 H2 : Hp) : Prop where
  g : Same G G2
  h : Same H H2
  n : ∀ a, H a ≠ none → G a = none → G2 a = none
  i : Same G2 H2
theorem Gr.refl {G H : Hp} (i : Same G H) : Gr G H G H := ⟨Same.refl G, Same.refl H, fun _ _ h => h, i⟩
theorem Gr.trans {G H G1 H1 G2 H2 : Hp} (a : Gr G H G1 H1) (b : Gr G1 H1 G2 H2) : Gr G H G2 H2 :=
  ⟨a.g.trans b.g, a.h.trans b.h, fun x hx gx => b.n x (fun e => by
    cases q : H x with
    | none => exact hx q
    | some o => rw [a.h x o q] at e; cases e) (a.n x hx gx), b.i⟩
/-- a new object -/
theorem Gr.new {G H : Hp} {p : Addr} {o : HO} (i : Same G H) (h : H p = none) : Gr G H (upd G p o) (upd H p o) := by
  have hg : G p = none := i.free h
  refine ⟨same_new hg, same_new h, fun a ha ga => ?_, fun a u e => ?_⟩
  · have ne : a ≠ p := fun z => ha (by rw [z]; exact h)
    rw [upd_ne ne]; exact ga
  · by_cases ne : a = p
    · subst ne; rw [upd_same] at e ⊢; exact e
    · rw [upd_ne ne] at e ⊢; exact i a u e
/-- .. where H alone grows -/
theorem Gr.side {G H H2 : Hp} (i : Same G H) (e : Same H H2) : Gr G H G H2 := ⟨Same.refl G, e, fun _ _ h => h, i.trans e⟩

/-! ### slots -/
/-- the heaps at a def's entry: the data, all -/
structure Ent where
  K : PySem.W.Frag
  G : Hp
  H : Hp
/-- a dict's entries -/
def RpK (G : Hp) : List (Key × D) → List (Key × V) → Prop
  | [], ks => ks = []
  | (k, d) :: ps, ks => ∃ v r, ks = (k, v) :: r ∧ Rp G d v ∧ RpK G ps r
theorem RpK.mono {G G' : Hp} (e : Same G G') : ∀ {kvs : List (Key × D)} {ks : List (Key × V)}, RpK G kvs ks → RpK G' kvs ks
  | [], _, h => h
  | (k, d) :: ps, _, ⟨v, r, h1, h2, h3⟩ => ⟨v, r, h1, Rp.mono e d v h2, RpK.mono e h3⟩
/-- what is known of a slot: nothing | its datum | its very value | a list of ints that may be read (the script) | a list of its own (no other one knows it) | a dict of its own | a value with objects of its own, F -/
inductive Sl where
  | no | d (x : D) | v (x : V) | s (ns : List Int) | ow (xs : List D) | od (kvs : List (Key × D)) | ob (P : Hp → Hp → V → Prop)
/-- G the data, F the slot's own objects -/
def SlR (E : Ent) (G F : Hp) : Sl → Option V → Prop
  | .no, _ => True
  | .d x, o => ∃ v, o = some v ∧ Rp G x v
  | .v x, o => o = some x
  | .s ns, o => ∃ a, o = some (.ref a) ∧ SqL E.K E.H a (ns.map V.int)
  | .ow xs, o => ∃ p vs, o = some (.ref p) ∧ F p = some (.lst vs) ∧ RpA G xs vs
  | .od kvs, o => ∃ p ks, o = some (.ref p) ∧ F p = some (.dK ks) ∧ RpK G kvs ks
  | .ob P, o => ∃ v, o = some v ∧ ∀ G', Same G G' → P G' F v
theorem SlR.mono {E : Ent} {G G' F : Hp} (e : Same G G') : ∀ {s : Sl} {o : Option V}, SlR E G F s o → SlR E G' F s o
  | .no, _, _ => trivial
  | .d _, _, ⟨v, h1, h2⟩ => ⟨v, h1, Rp.mono e _ _ h2⟩
  | .v _, _, h => h
  | .s _, _, h => h
  | .ow _, _, ⟨p, vs, h1, h2, h3⟩ => ⟨p, vs, h1, h2, RpA.mono e _ _ h3⟩
  | .od _, _, ⟨p, ks, h1, h2, h3⟩ => ⟨p, ks, h1, h2, RpK.mono e h3⟩
  | .ob _, _, ⟨v, h1, h2⟩ => ⟨v, h1, fun G2 e2 => h2 G2 (e.trans e2)⟩
/-- it owns nothing -/
def Sl.bare : Sl → Bool
  | .ow _ => false
  | .od _ => false
  | .ob _ => false
  | _ => true
theorem SlR.bare {E : Ent} {G F F' : Hp} : ∀ {s : Sl} {o : Option V}, s.bare = true → SlR E G F s o → SlR E G F' s o
  | .no, _, _, h => h
  | .d _, _, _, h => h
  | .v _, _, _, h => h
  | .s _, _, _, h => h
  | .ow _, _, b, _ => nomatch b
  | .od _, _, b, _ => nomatch b
  | .ob _, _, b, _ => nomatch b
def none0 : Hp := fun _ => none
/-- the slots' own objects: they stand in H, apart from the data, from what was at the entry, from each other -/
structure Reg (E : Ent) (δ : List Sl) (σ : L2.St) (G H : Hp) (F : Nat → Hp) : Prop where
  in_ : ∀ j, Same (F j) H
  out : ∀ j a, F j a ≠ none → G a = none ∧ E.H a = none
  ap : ∀ j k a, j ≠ k → F j a ≠ none → F k a = none
  sl : ∀ (j : Nat) (s : Sl) (o : Option V), δ[j]? = some s → σ[j]? = some o → SlR E G (F j) s o
structure St (E : Ent) (δ : List Sl) (σ : L2.St) (G H : Hp) : Prop where
  g : Same E.G G
  h : Same E.H H
  n : ∀ a, E.H a ≠ none → E.G a = none → G a = none
  i : Same G H
  len : σ.length = δ.length
  rg : ∃ F, Reg E δ σ G H F
section
variable {E : Ent} {δ : List Sl} {σ : L2.St} {G H G2 H2 : Hp}
theorem not_none {H H2 : Hp} {a : Addr} (e : Same H H2) (h : H a ≠ none) : H2 a ≠ none := fun z => by
  cases q : H a with
  | none => exact h q
  | some o => rw [e a o q] at z; cases z
theorem Reg.grow {F : Nat → Hp} (s : Reg E δ σ G H F) (r : Gr G H G2 H2) : Reg E δ σ G2 H2 F where
  in_ := fun j => (s.in_ j).trans r.h
  out := fun j a h => ⟨r.n a (not_none (s.in_ j) h) (s.out j a h).1, (s.out j a h).2⟩
  ap := s.ap
  sl := fun j t o h1 h2 => (s.sl j t o h1 h2).mono r.g
theorem St.grow (s : St E δ σ G H) (r : Gr G H G2 H2) : St E δ σ G2 H2 where
  g := s.g.trans r.g
  h := s.h.trans r.h
  n := fun a h1 h2 => r.n a (not_none s.h h1) (s.n a h1 h2)
  i := r.i
  len := s.len
  rg := let ⟨F, q⟩ := s.rg; ⟨F, q.grow r⟩
theorem St.here (s : St E δ σ G H) {i : Nat} {t : Sl} (h : δ[i]? = some t) : ∃ o, σ[i]? = some o := by
  have hl : i < σ.length := by rw [s.len]; exact (List.getElem?_eq_some_iff.mp h).1
  exact ⟨σ[i], List.getElem?_eq_getElem hl⟩
theorem St.atD (s : St E δ σ G H) {i : Nat} {x : D} (h : δ[i]? = some (.d x)) : ∃ v, σ[i]? = some (some v) ∧ Rp G x v := by
  obtain ⟨o, ho⟩ := s.here h
  obtain ⟨F, q⟩ := s.rg
  obtain ⟨v, e, r⟩ := q.sl i _ o h ho
  subst e
  exact ⟨v, ho, r⟩
theorem St.atV (s : St E δ σ G H) {i : Nat} {x : V} (h : δ[i]? = some (.v x)) : σ[i]? = some (some x) := by
  obtain ⟨o, ho⟩ := s.here h
  obtain ⟨F, q⟩ := s.rg
  have e : o = some x := q.sl i _ o h ho
  rw [← e]; exact ho
theorem St.atS (s : St E δ σ G H) {i : Nat} {ns : List Int} (h : δ[i]? = some (.s ns)) : ∃ a, σ[i]? = some (some (.ref a)) ∧ SqL E.K E.H a (ns.map V.int) := by
  obtain ⟨o, ho⟩ := s.here h
  obtain ⟨F, q⟩ := s.rg
  obtain ⟨a, e, r⟩ := q.sl i _ o h ho
  subst e
  exact ⟨a, ho, r⟩
theorem St.atOw (s : St E δ σ G H) {i : Nat} {xs : List D} (h : δ[i]? = some (.ow xs)) : ∃ p vs, σ[i]? = some (some (.ref p)) ∧ H p = some (.lst vs) ∧ RpA G xs vs ∧ G p = none ∧ E.H p = none := by
  obtain ⟨o, ho⟩ := s.here h
  obtain ⟨F, q⟩ := s.rg
  obtain ⟨p, vs, e, h1, r⟩ := q.sl i _ o h ho
  subst e
  have z := q.out i p (by rw [h1]; simp)
  exact ⟨p, vs, ho, q.in_ i p _ h1, r, z.1, z.2⟩
theorem St.atOd (s : St E δ σ G H) {i : Nat} {xs : List (Key × D)} (h : δ[i]? = some (.od xs)) : ∃ p ks, σ[i]? = some (some (.ref p)) ∧ H p = some (.dK ks) ∧ RpK G xs ks ∧ G p = none ∧ E.H p = none := by
  obtain ⟨o, ho⟩ := s.here h
  obtain ⟨F, q⟩ := s.rg
  obtain ⟨p, vs, e, h1, r⟩ := q.sl i _ o h ho
  subst e
  have z := q.out i p (by rw [h1]; simp)
  exact ⟨p, vs, ho, q.in_ i p _ h1, r, z.1, z.2⟩
/-- THE STEP: slot i is stored anew, its own objects from here on F'; of what stood, only the slot's own objects may have changed -/
theorem Reg.step {F : Nat → Hp} (q : Reg E δ σ G H F) (hi : Same G H) (i : Nat) (t : Sl) (o' : Option V) (F' : Hp) (eg : Same G G2) (i2 : Same G2 H2) (hn : ∀ a, H a ≠ none → G a = none → G2 a = none)
    (kp : ∀ a o, H a = some o → F i a = none → H2 a = some o) (in2 : Same F' H2) (out2 : ∀ a, F' a ≠ none → G2 a = none ∧ E.H a = none) (new : ∀ a, F' a ≠ none → F i a ≠ none ∨ H a = none) (hs : SlR E G2 F' t o') :
    Reg E (δ.set i t) (σ.set i o') G2 H2 (fun j => if j = i then F' else F j) where
  in_ := fun j => by
    by_cases e : j = i
    · simp only [e, if_true]; exact in2
    · simp only [e, if_false]
      intro a o h
      exact kp a o (q.in_ j a o h) (q.ap j i a e (by rw [h]; simp))
  out := fun j a h => by
    by_cases e : j = i
    · simp only [e, if_true] at h; exact out2 a h
    · simp only [e, if_false] at h
      have z := q.out j a h
      exact ⟨hn a (not_none (q.in_ j) h) z.1, z.2⟩
  ap := fun j k a ne h => by
    have other : ∀ m, m ≠ i → F m a ≠ none → F' a = none := fun m hm hf => by
      cases z : F' a with
      | none => rfl
      | some u =>
        rcases new a (by rw [z]; simp) with w | w
        · exact absurd (q.ap m i a hm hf) w
        · exact absurd w (not_none (q.in_ m) hf)
    by_cases e : j = i
    · have e2 : k ≠ i := fun z => ne (e.trans z.symm)
      simp only [e, if_true] at h
      simp only [e2, if_false]
      cases z : F k a with
      | none => rfl
      | some u => exact absurd (other k e2 (by rw [z]; simp)) h
    · simp only [e, if_false] at h
      by_cases e2 : k = i
      · simp only [e2, if_true]; exact other j e h
      · simp only [e2, if_false]; exact q.ap j k a ne h
  sl := fun j s o h1 h2 => by
    by_cases e : j = i
    · subst e
      simp only [if_true]
      rw [List.getElem?_set] at h1 h2
      simp only [if_true] at h1 h2
      split at h1
      · split at h2
        · cases h1; cases h2; exact hs
        · cases h2
      · cases h1
    · simp only [e, if_false]
      rw [List.getElem?_set_ne (Ne.symm e)] at h1 h2
      exact (q.sl j s o h1 h2).mono eg
/-- .. where the heap has only grown -/
theorem St.put (s : St E δ σ G H) (r : Gr G H G2 H2) (i : Nat) (t : Sl) (o' : Option V) (F' : Hp) (in2 : Same F' H2) (new : ∀ a, F' a ≠ none → H a = none ∧ G2 a = none) (hs : SlR E G2 F' t o') : St E (δ.set i t) (σ.set i o') G2 H2 := by
  have s2 := s.grow r
  obtain ⟨F, q⟩ := s.rg
  exact ⟨s2.g, s2.h, s2.n, s2.i, by simp [s.len], _, q.step s.i i t o' F' r.g r.i r.n (fun a o h _ => r.h a o h) in2 (fun a h => ⟨(new a h).2, s.h.free (new a h).1⟩) (fun a h => .inr (new a h).1) hs⟩
theorem St.putB (s : St E δ σ G H) (i : Nat) (t : Sl) (o' : Option V) (hs : SlR E G none0 t o') : St E (δ.set i t) (σ.set i o') G H :=
  s.put (Gr.refl s.i) i t o' none0 (fun _ _ z => nomatch z) (fun _ z => absurd rfl z) hs
/-- a slot is set to a datum -/
theorem St.setD (s : St E δ σ G H) (i : Nat) {x : D} {v : V} (h : Rp G x v) : St E (δ.set i (.d x)) (σ.set i (some v)) G H := s.putB i _ _ ⟨v, rfl, h⟩
theorem set_get {α : Type} {l : List α} {i : Nat} {x : α} (h : l[i]? = some x) : l.set i x = l := by
  apply List.ext_getElem?
  intro j
  rw [List.getElem?_set]
  by_cases e : i = j
  · subst e
    rw [if_pos rfl]
    rw [h]
    exact if_pos (List.getElem?_eq_some_iff.mp h).1
  · rw [if_neg e]
theorem set_out {α : Type} {l : List α} {i : Nat} {x : α} (h : l[i]? = none) : l.set i x = l := List.set_eq_of_length_le (List.getElem?_eq_none_iff.mp h)
/-- what is known of a slot is changed, its value stays -/
theorem St.view (s : St E δ σ G H) (r : Gr G H G2 H2) (i : Nat) (t : Sl) (F' : Hp) (in2 : Same F' H2) (new : ∀ a, F' a ≠ none → H a = none ∧ G2 a = none) (hs : ∀ o, σ[i]? = some o → SlR E G2 F' t o) : St E (δ.set i t) σ G2 H2 := by
  cases e : σ[i]? with
  | none =>
    have : δ[i]? = none := by
      rw [List.getElem?_eq_none_iff] at e ⊢
      rw [← s.len]; exact e
    rw [set_out this]
    exact s.grow r
  | some o =>
    have := s.put r i t o F' in2 new (hs o e)
    rwa [set_get e] at this
/-- a slot is forgotten -/
theorem St.forget (s : St E δ σ G H) (i : Nat) : St E (δ.set i .no) σ G H := s.view (Gr.refl s.i) i .no none0 (fun _ _ z => nomatch z) (fun _ z => absurd rfl z) fun _ _ => trivial
/-- an own list may be shared from here on -/
theorem St.share {i : Nat} {xs : List D} (s : St E δ σ G H) (h : δ[i]? = some (.ow xs)) :
    ∃ p vs, σ[i]? = some (some (.ref p)) ∧ H p = some (.lst vs) ∧ RpA G xs vs ∧ G p = none ∧ E.H p = none ∧ St E (δ.set i (.d (.list xs))) σ (upd G p (.lst vs)) H := by
  obtain ⟨o, ho⟩ := s.here h
  obtain ⟨F, q⟩ := s.rg
  obtain ⟨p, vs, e, h1, r⟩ := q.sl i _ o h ho
  subst e
  have z := q.out i p (by rw [h1]; simp)
  have hp := q.in_ i p _ h1
  have sg : Same G (upd G p (.lst vs)) := same_new z.1
  refine ⟨p, vs, ho, hp, r, z.1, z.2, s.g.trans sg, s.h, fun a ha ga => ?_, fun a u e => ?_, by simp [s.len], fun j => if j = i then none0 else F j, ?_⟩
  · have ne : a ≠ p := fun e => ha (by rw [e]; exact z.2)
    rw [upd_ne ne]; exact s.n a ha ga
  · by_cases ne : a = p
    · subst ne; rw [upd_same] at e; cases e; exact hp
    · rw [upd_ne ne] at e; exact s.i a u e
  · refine ⟨fun j => ?_, fun j a hf => ?_, fun j k a ne hf => ?_, fun j t o q1 q2 => ?_⟩
    · by_cases e : j = i
      · simp only [e, if_true]; exact fun _ _ y => nomatch y
      · simp only [e, if_false]; exact q.in_ j
    · by_cases e : j = i
      · simp only [e, if_true] at hf; exact absurd rfl hf
      · simp only [e, if_false] at hf
        have y := q.out j a hf
        have ne : a ≠ p := fun w => hf (by rw [w]; exact q.ap i j p (Ne.symm e) (by rw [h1]; simp))
        exact ⟨by rw [upd_ne ne]; exact y.1, y.2⟩
    · by_cases e : j = i
      · simp only [e, if_true] at hf; exact absurd rfl hf
      · simp only [e, if_false] at hf
        by_cases e2 : k = i
        · simp only [e2, if_true]; rfl
        · simp only [e2, if_false]; exact q.ap j k a ne hf
    · by_cases e : j = i
      · subst e
        simp only [if_true]
        rw [List.getElem?_set] at q1
        simp only [if_true] at q1
        split at q1
        · cases q1
          rw [ho] at q2; cases q2
          exact ⟨_, rfl, p, vs, rfl, upd_same, RpA.mono sg _ _ r⟩
        · cases q1
      · simp only [e, if_false]
        rw [List.getElem?_set_ne (Ne.symm e)] at q1
        exact (q.sl j t o q1 q2).mono sg
/-- an own object at p is changed -/
theorem St.change {i : Nat} {t : Sl} {p : Addr} {u' : HO} (s : St E δ σ G H) (w : Sl) (hw : δ[i]? = some w) (hp : σ[i]? = some (some (.ref p)))
    (own : ∀ F, SlR E G F w (some (.ref p)) → F p ≠ none) (r : ∀ F, SlR E G F w (some (.ref p)) → SlR E G (upd F p u') t (some (.ref p))) : St E (δ.set i t) σ G (upd H p u') := by
  obtain ⟨F, q⟩ := s.rg
  have hs := q.sl i w _ hw hp
  have fp := own _ hs
  have z := q.out i p fp
  have i2 : Same G (upd H p u') := same_mut s.i z.1
  have := q.step s.i i t (some (.ref p)) (upd (F i) p u') (Same.refl G) i2 (fun _ _ h => h) (fun a o h hf => by
    have ne : a ≠ p := fun e => by subst e; exact fp hf
    rw [upd_ne ne]; exact h) (fun a o h => by
    by_cases e : a = p
    · subst e; rw [upd_same] at h ⊢; exact h
    · rw [upd_ne e] at h ⊢; exact q.in_ i a o h) (fun a h => by
    by_cases e : a = p
    · subst e; exact z
    · rw [upd_ne e] at h; exact q.out i a h) (fun a h => by
    by_cases e : a = p
    · subst e; exact .inl fp
    · rw [upd_ne e] at h; exact .inl h) (r _ hs)
  rw [set_get hp] at this
  exact ⟨s.g, same_mut s.h z.2, s.n, i2, by simp [s.len], _, this⟩
/-- an own list is changed -/
theorem St.mutate {i : Nat} {xs ys : List D} {p : Addr} {ws : List V} (s : St E δ σ G H) (h : δ[i]? = some (.ow xs)) (hp : σ[i]? = some (some (.ref p))) (r : RpA G ys ws) :
    St E (δ.set i (.ow ys)) σ G (upd H p (.lst ws)) := by
  refine s.change (.ow xs) h hp (fun F q => ?_) fun F q => ⟨p, ws, rfl, upd_same, r⟩
  obtain ⟨p2, vs, e, h1, _⟩ := q
  cases e
  rw [h1]; simp
/-- an own dict is changed -/
theorem St.mutateD {i : Nat} {xs ys : List (Key × D)} {p : Addr} {ws : List (Key × V)} (s : St E δ σ G H) (h : δ[i]? = some (.od xs)) (hp : σ[i]? = some (some (.ref p))) (r : RpK G ys ws) :
    St E (δ.set i (.od ys)) σ G (upd H p (.dK ws)) := by
  refine s.change (.od xs) h hp (fun F q => ?_) fun F q => ⟨p, ws, rfl, upd_same, r⟩
  obtain ⟨p2, vs, e, h1, _⟩ := q
  cases e
  rw [h1]; simp
/-- one object -/
def sing (p : Addr) (o : HO) : Hp := fun a => if a = p then some o else none
theorem sing_self {p : Addr} {o : HO} : sing p o p = some o := if_pos rfl
theorem sing_ne {p a : Addr} {o : HO} (h : sing p o a ≠ none) : a = p := by
  by_cases e : a = p
  · exact e
  · exact absurd (if_neg e) h
theorem sing_in {p : Addr} {o : HO} (h : H p = some o) : Same (sing p o) H := fun a u e => by
  have q : a = p := sing_ne (by rw [e]; simp)
  subst q
  rw [sing_self] at e; cases e; exact h
/-- a new list becomes a slot's own -/
theorem St.setOw (s : St E δ σ G H) (r : Gr G H G2 H2) (i : Nat) {xs : List D} {p : Addr} {vs : List V} (hp : H p = none) (gp : G2 p = none) (h2 : H2 p = some (.lst vs)) (ra : RpA G2 xs vs) :
    St E (δ.set i (.ow xs)) (σ.set i (some (.ref p))) G2 H2 :=
  s.put r i _ _ (sing p (.lst vs)) (sing_in h2) (fun a h => by rw [sing_ne h]; exact ⟨hp, gp⟩) ⟨p, vs, rfl, sing_self, ra⟩
theorem St.setOd (s : St E δ σ G H) (r : Gr G H G2 H2) (i : Nat) {xs : List (Key × D)} {p : Addr} {vs : List (Key × V)} (hp : H p = none) (gp : G2 p = none) (h2 : H2 p = some (.dK vs)) (ra : RpK G2 xs vs) :
    St E (δ.set i (.od xs)) (σ.set i (some (.ref p))) G2 H2 :=
  s.put r i _ _ (sing p (.dK vs)) (sing_in h2) (fun a h => by rw [sing_ne h]; exact ⟨hp, gp⟩) ⟨p, vs, rfl, sing_self, ra⟩
end
end PL

/-! PRules: the judgements over pure data, and a rule for each construct. -/
namespace PL
open PySem L2

/-! ### judgements -/
def Ev (E : Ent) (te : TE) (δ : List Sl) (d : D) : Prop := ∀ σ G H Q, St E δ σ G H → (∀ v G2 H2, Gr G H G2 H2 → Rp G2 d v → Q v H2) → te σ H Q
/-- a new list -/
def EvF (E : Ent) (te : TE) (δ : List Sl) (ds : List D) : Prop := ∀ σ G H (Q : VK), St E δ σ G H → (∀ p vs G2 H2, Gr G H G2 H2 → H p = none → G2 p = none → H2 p = some (.lst vs) → RpA G2 ds vs → Q (.ref p) H2) → te σ H Q
/-- an expression that changes own lists -/
def EvM (E : Ent) (te : TE) (δ δ' : List Sl) (d : D) : Prop := ∀ σ G H Q, St E δ σ G H → (∀ v G2 H2, Same G G2 → St E δ' σ G2 H2 → Rp G2 d v → Q v H2) → te σ H Q
def Et (E : Ent) (tt : TT) (δ : List Sl) (b : Bool) : Prop := ∀ σ G H (Q : Bool → Hp → Prop), St E δ σ G H → (∀ G2 H2, Gr G H G2 H2 → Q b H2) → tt σ H Q
/-- what a caller hands on -/
def ArgR (K : PySem.W.Frag) (G H : Hp) : Sl → V → Prop
  | .d x, v => Rp G x v
  | .v x, v => v = x
  | .s ns, v => ∃ a, v = .ref a ∧ SqL K H a (ns.map V.int)
  | _, _ => False
def ArgsR (K : PySem.W.Frag) (G H : Hp) : List Sl → List V → Prop
  | [], vs => vs = []
  | a :: as, vs => ∃ v r, vs = v :: r ∧ ArgR K G H a v ∧ ArgsR K G H as r
def Ea (E : Ent) (ta : TA) (δ : List Sl) (as : List Sl) : Prop := ∀ σ G H (Q : List V → Hp → Prop), St E δ σ G H → (∀ us G2 H2, Gr G H G2 H2 → ArgsR E.K G2 H2 as us → Q us H2) → ta σ H Q
/-- .. of data alone -/
def Ed (E : Ent) (ta : TA) (δ : List Sl) (ds : List D) : Prop := ∀ σ G H (Q : List V → Hp → Prop), St E δ σ G H → (∀ us G2 H2, Gr G H G2 H2 → RpA G2 ds us → Q us H2) → ta σ H Q
def OpD (E : Ent) (r : R2) (d1 d2 d : D) : Prop := ∀ G H x y (Q : VK), Same G H → Same E.H H → Rp G d1 x → Rp G d2 y → (∀ v G2 H2, Gr G H G2 H2 → Rp G2 d v → Q v H2) → r x y H Q
/-- a call on data -/
def CaD (E : Ent) (r : List V → Hp → VK → Prop) (ds : List D) (d : D) : Prop := ∀ G H vs (Q : VK), Same G H → Same E.H H → RpA G ds vs → (∀ v G2 H2, Gr G H G2 H2 → Rp G2 d v → Q v H2) → r vs H Q
def CaF (E : Ent) (r : List V → Hp → VK → Prop) (ds : List D) (es : List D) : Prop := ∀ G H vs (Q : VK), Same G H → Same E.H H → RpA G ds vs → (∀ p us G2 H2, Gr G H G2 H2 → H p = none → G2 p = none → H2 p = some (.lst us) → RpA G2 es us → Q (.ref p) H2) → r vs H Q

section
variable {E : Ent} {δ δ' : List Sl} {ta tb te tc : TE} {tt tu : TT} {d d1 d2 : D} {r : R2}

theorem sameE {σ : L2.St} {G H G2 H2 : Hp} (s : St E δ σ G H) (g : Gr G H G2 H2) : Same E.H H2 := s.h.trans g.h
theorem Ev.m (h : Ev E te δ d) : EvM E te δ δ d := fun σ G H Q s k => h σ G H Q s fun v G2 H2 g r => k v G2 H2 g.g (s.grow g) r
theorem EvF.ev {ds : List D} (h : EvF E te δ ds) : Ev E te δ (.list ds) := fun σ G H Q s k => h σ G H Q s fun p vs G2 H2 g hp gp h2 r => by
  have sg : Same G2 (upd G2 p (.lst vs)) := same_new gp
  refine k (.ref p) (upd G2 p (.lst vs)) H2 ⟨g.g.trans sg, g.h, fun a ha ga => ?_, fun a u e => ?_⟩ ⟨p, vs, rfl, upd_same, RpA.mono sg _ _ r⟩
  · have ne : a ≠ p := fun z => ha (by rw [z]; exact hp)
    rw [upd_ne ne]; exact g.n a ha ga
  · by_cases ne : a = p
    · subst ne; rw [upd_same] at e; cases e; exact h2
    · rw [upd_ne ne] at e; exact g.i a u e
theorem Ev.is (h : Ev E te δ d1) (e : d1 = d) : Ev E te δ d := e ▸ h
theorem Et.is {b c : Bool} (h : Et E tt δ b) (e : b = c) : Et E tt δ c := e ▸ h
/-- reading an own list where what comes of it is no reference -/
def scalD : D → Bool
  | .none => true
  | .bool _ => true
  | .int _ => true
  | .str _ => true
  | _ => false
theorem scal_rp {G G' : Hp} {v : V} : ∀ {d : D}, scalD d = true → Rp G d v → Rp G' d v
  | .none, _, h => h
  | .bool _, _, h => h
  | .int _, _, h => h
  | .str _, _, h => h
  | .list _, h, _ => by cases h
  | .tuple _, h, _ => by cases h
  | .dict _, h, _ => by cases h
theorem scalA_rp {G G' : Hp} : ∀ {ds : List D} {vs : List V}, ds.all scalD = true → RpA G ds vs → RpA G' ds vs
  | [], _, _, h => h
  | d :: ds, _, a, ⟨v, r, h1, h2, h3⟩ => by
    rw [List.all_cons, Bool.and_eq_true] at a
    exact ⟨v, r, h1, scal_rp a.1 h2, scalA_rp a.2 h3⟩
theorem Ev.lend {i : Nat} {xs : List D} (o : δ[i]? = some (.ow xs)) (h : Ev E te (δ.set i (.d (.list xs))) d) (hs : scalD d = true) : Ev E te δ d := fun σ G H Q s k => by
  obtain ⟨p, vs, h1, h2, h3, h4, h5, s'⟩ := s.share o
  exact h σ _ H Q s' fun v G2 H2 g r => k v G H2 (Gr.side s.i g.h) (scal_rp hs r)
theorem Et.lend {b : Bool} {i : Nat} {xs : List D} (o : δ[i]? = some (.ow xs)) (h : Et E tt (δ.set i (.d (.list xs))) b) : Et E tt δ b := fun σ G H Q s k => by
  obtain ⟨p, vs, h1, h2, h3, h4, h5, s'⟩ := s.share o
  exact h σ _ H Q s' fun G2 H2 g => k G H2 (Gr.side s.i g.h)
theorem EvF.lend {i : Nat} {xs ds : List D} (o : δ[i]? = some (.ow xs)) (h : EvF E te (δ.set i (.d (.list xs))) ds) (hs : ds.all scalD = true) : EvF E te δ ds := fun σ G H Q s k => by
  obtain ⟨p, vs, h1, h2, h3, h4, h5, s'⟩ := s.share o
  exact h σ _ H Q s' fun q us G2 H2 g hq gq hq2 r => k q us G H2 (Gr.side s.i g.h) hq (s.i.free hq) hq2 (scalA_rp hs r)

/-! ### names, constants -/
theorem ev_var {i : Nat} (h : δ[i]? = some (.d d)) : Ev E (tVar i) δ d := fun σ G H Q s k => by
  obtain ⟨v, ho, r⟩ := s.atD h
  exact ⟨v, ho, k v G H (Gr.refl s.i) r⟩
theorem ev_int {i : Int} : Ev E (tC (.int i)) δ (.int i) := fun σ G H Q s k => k _ G H (Gr.refl s.i) rfl
theorem ev_str {i : Str} : Ev E (tC (.str i)) δ (.str i) := fun σ G H Q s k => k _ G H (Gr.refl s.i) rfl
theorem ev_bl {i : Bool} : Ev E (tC (.bl i)) δ (.bool i) := fun σ G H Q s k => k _ G H (Gr.refl s.i) rfl
theorem ev_non : Ev E (tC .non) δ .none := fun σ G H Q s k => k _ G H (Gr.refl s.i) rfl

/-! ### operators -/
theorem ev_op (ha : Ev E ta δ d1) (hb : Ev E tb δ d2) (hr : OpD E r d1 d2 d) : Ev E (tOp r ta tb) δ d := fun σ G H Q s k =>
  ha σ G H _ s fun x G1 H1 g1 r1 => hb σ G1 H1 _ (s.grow g1) fun y G2 H2 g2 r2 => hr G2 H2 x y Q g2.i (sameE s (g1.trans g2)) (Rp.mono g2.g _ _ r1) r2 fun v G3 H3 g3 r3 => k v G3 H3 ((g1.trans g2).trans g3) r3
theorem op_val {v : V} (h : ∀ G H x y (Q : VK), Same G H → Same E.H H → Rp G d1 x → Rp G d2 y → Q v H → r x y H Q) (hv : ∀ G, Rp G d v) : OpD E r d1 d2 d := fun G H x y Q i e a b k => h G H x y Q i e a b (k v G H (Gr.refl i) (hv G))
/-- + - < .. of ints -/
theorem op_int {g : Int → Int → Int} {i j : Int} : OpD E (rI0 fun i j => .int (g i j)) (.int i) (.int j) (.int (g i j)) := op_val (fun _ _ _ _ _ _ _ a b q => ⟨i, j, a, b, q⟩) fun _ => rfl
theorem op_bool {g : Int → Int → Bool} {i j : Int} : OpD E (rI0 fun i j => .bl (g i j)) (.int i) (.int j) (.bool (g i j)) := op_val (fun _ _ _ _ _ _ _ a b q => ⟨i, j, a, b, q⟩) fun _ => rfl
theorem op_intC {C : Int → Int → Prop} {g : Int → Int → Int} {i j : Int} (c : C i j) : OpD E (rI C fun i j => .int (g i j)) (.int i) (.int j) (.int (g i j)) := op_val (fun _ _ _ _ _ _ _ a b q => ⟨i, j, a, b, c, q⟩) fun _ => rfl
theorem ev_add {i j : Int} (ha : Ev E ta δ (.int i)) (hb : Ev E tb δ (.int j)) : Ev E (tOp (rI0 fun i j => .int (i + j)) ta tb) δ (.int (i + j)) := ev_op ha hb op_int
theorem ev_sub {i j : Int} (ha : Ev E ta δ (.int i)) (hb : Ev E tb δ (.int j)) : Ev E (tOp (rI0 fun i j => .int (i - j)) ta tb) δ (.int (i - j)) := ev_op ha hb op_int
theorem ev_mul {i j : Int} (ha : Ev E ta δ (.int i)) (hb : Ev E tb δ (.int j)) (c : CMul i j) : Ev E (tOp (rI CMul fun i j => .int (i * j)) ta tb) δ (.int (i * j)) := ev_op ha hb (op_intC c)
theorem ev_mod {i j : Int} (ha : Ev E ta δ (.int i)) (hb : Ev E tb δ (.int j)) (c : 0 < j) : Ev E (tOp (rI (fun _ j => 0 < j) fun i j => .int (i % j)) ta tb) δ (.int (i % j)) := ev_op ha hb (op_intC c)
theorem ev_fdiv {i j : Int} (ha : Ev E ta δ (.int i)) (hb : Ev E tb δ (.int j)) (c : CDiv i j) : Ev E (tOp (rI CDiv fun i j => .int (i / j)) ta tb) δ (.int (i / j)) := ev_op ha hb (op_intC c)
theorem ev_lt {i j : Int} (ha : Ev E ta δ (.int i)) (hb : Ev E tb δ (.int j)) : Ev E (tOp (rI0 fun i j => .bl (decide (i < j))) ta tb) δ (.bool (decide (i < j))) := ev_op ha hb op_bool
theorem ev_le {i j : Int} (ha : Ev E ta δ (.int i)) (hb : Ev E tb δ (.int j)) : Ev E (tOp (rI0 fun i j => .bl (decide (i ≤ j))) ta tb) δ (.bool (decide (i ≤ j))) := ev_op ha hb op_bool
theorem ev_gt {i j : Int} (ha : Ev E ta δ (.int i)) (hb : Ev E tb δ (.int j)) : Ev E (tOp (rI0 fun i j => .bl (decide (j < i))) ta tb) δ (.bool (decide (j < i))) := ev_op ha hb op_bool
theorem ev_ge {i j : Int} (ha : Ev E ta δ (.int i)) (hb : Ev E tb δ (.int j)) : Ev E (tOp (rI0 fun i j => .bl (decide (j ≤ i))) ta tb) δ (.bool (decide (j ≤ i))) := ev_op ha hb op_bool
/-- == of ints -/
theorem ev_eqI {i j : Int} (ha : Ev E ta δ (.int i)) (hb : Ev E tb δ (.int j)) : Ev E (tOp rEq ta tb) δ (.bool (decide (i = j))) :=
  ev_op ha hb (op_val (v := .bl (decide (i = j))) (fun _ _ x y Q _ _ a b q => by
    have a : x = .int i := a
    have b : y = .int j := b
    subst a b
    refine ⟨rfl, ?_⟩
    have e : decide (V.int i = V.int j) = decide (i = j) := by
      by_cases h : i = j
      · subst h; simp
      · rw [decide_eq_false h, decide_eq_false (fun z => h (V.int.inj z))]
    rw [e]; exact q) fun _ => rfl)
theorem ev_neI {i j : Int} (ha : Ev E ta δ (.int i)) (hb : Ev E tb δ (.int j)) : Ev E (tOp rNe ta tb) δ (.bool (!decide (i = j))) :=
  ev_op ha hb (op_val (v := .bl (!decide (i = j))) (fun _ _ x y Q _ _ a b q => by
    have a : x = .int i := a
    have b : y = .int j := b
    subst a b
    refine ⟨rfl, ?_⟩
    have e : decide (V.int i = V.int j) = decide (i = j) := by
      by_cases h : i = j
      · subst h; simp
      · rw [decide_eq_false h, decide_eq_false (fun z => h (V.int.inj z))]
    rw [e]; exact q) fun _ => rfl)
theorem ev_eqS {i j : Str} (ha : Ev E ta δ (.str i)) (hb : Ev E tb δ (.str j)) : Ev E (tOp rEq ta tb) δ (.bool (decide (i = j))) :=
  ev_op ha hb (op_val (v := .bl (decide (i = j))) (fun _ _ x y Q _ _ a b q => by
    have a : x = .str i := a
    have b : y = .str j := b
    subst a b
    refine ⟨rfl, ?_⟩
    have e : decide (V.str i = V.str j) = decide (i = j) := by
      by_cases h : i = j
      · subst h; simp
      · rw [decide_eq_false h, decide_eq_false (fun z => h (V.str.inj z))]
    rw [e]; exact q) fun _ => rfl)
theorem ev_neS {i j : Str} (ha : Ev E ta δ (.str i)) (hb : Ev E tb δ (.str j)) : Ev E (tOp rNe ta tb) δ (.bool (!decide (i = j))) :=
  ev_op ha hb (op_val (v := .bl (!decide (i = j))) (fun _ _ x y Q _ _ a b q => by
    have a : x = .str i := a
    have b : y = .str j := b
    subst a b
    refine ⟨rfl, ?_⟩
    have e : decide (V.str i = V.str j) = decide (i = j) := by
      by_cases h : i = j
      · subst h; simp
      · rw [decide_eq_false h, decide_eq_false (fun z => h (V.str.inj z))]
    rw [e]; exact q) fun _ => rfl)

/-! ### tests, and, or, not -/
theorem et_test {b : Bool} (h : Ev E te δ (.bool b)) : Et E (tTest te) δ b := fun σ G H Q s k => h σ G H _ s fun v G2 H2 g r => ⟨b, r, k G2 H2 g⟩
theorem et_B {b : Bool} (h : Ev E te δ (.bool b)) : Et E (tB te) δ b := fun σ G H Q s k => h σ G H _ s fun v G2 H2 g r => ⟨b, r, k G2 H2 g⟩
theorem et_and {a b : Bool} (h1 : Et E tt δ a) (h2 : a = true → Et E tu δ b) : Et E (tAnd tt tu) δ (a && b) := fun σ G H Q s k => h1 σ G H _ s fun G2 H2 g => by
  cases a with
  | true => rw [if_pos rfl]; exact h2 rfl σ G2 H2 Q (s.grow g) fun G3 H3 g3 => k G3 H3 (g.trans g3)
  | false => rw [if_neg Bool.false_ne_true]; exact k G2 H2 g
theorem et_or {a b : Bool} (h1 : Et E tt δ a) (h2 : a = false → Et E tu δ b) : Et E (tOr tt tu) δ (a || b) := fun σ G H Q s k => h1 σ G H _ s fun G2 H2 g => by
  cases a with
  | true => rw [if_pos rfl]; exact k G2 H2 g
  | false => rw [if_neg Bool.false_ne_true]; exact h2 rfl σ G2 H2 Q (s.grow g) fun G3 H3 g3 => k G3 H3 (g.trans g3)
theorem et_not {a : Bool} (h1 : Et E tt δ a) : Et E (tNot tt) δ (!a) := fun σ G H Q s k => h1 σ G H _ s fun G2 H2 g => k G2 H2 g
theorem ev_andV {a b : Bool} (h1 : Ev E ta δ (.bool a)) (h2 : a = true → Ev E tb δ (.bool b)) : Ev E (tAndV ta tb) δ (.bool (a && b)) := fun σ G H Q s k => h1 σ G H _ s fun v G2 H2 g r => by
  refine ⟨a, r, ?_⟩
  cases a with
  | true => rw [if_pos rfl]; exact h2 rfl σ G2 H2 Q (s.grow g) fun v G3 H3 g3 r3 => k v G3 H3 (g.trans g3) r3
  | false => rw [if_neg Bool.false_ne_true]; exact k _ G2 H2 g rfl
theorem ev_orV {a b : Bool} (h1 : Ev E ta δ (.bool a)) (h2 : a = false → Ev E tb δ (.bool b)) : Ev E (tOrV ta tb) δ (.bool (a || b)) := fun σ G H Q s k => h1 σ G H _ s fun v G2 H2 g r => by
  refine ⟨a, r, ?_⟩
  cases a with
  | true => rw [if_pos rfl]; exact k _ G2 H2 g rfl
  | false => rw [if_neg Bool.false_ne_true]; exact h2 rfl σ G2 H2 Q (s.grow g) fun v G3 H3 g3 r3 => k v G3 H3 (g.trans g3) r3
theorem ev_notV {a : Bool} (h1 : Ev E ta δ (.bool a)) : Ev E (tNotV ta) δ (.bool (!a)) := fun σ G H Q s k => h1 σ G H _ s fun v G2 H2 g r => ⟨a, r, k _ G2 H2 g rfl⟩
theorem ev_if {b : Bool} (h : Et E tt δ b) (h1 : b = true → Ev E ta δ d) (h2 : b = false → Ev E tb δ d) : Ev E (tIf tt ta tb) δ d := fun σ G H Q s k => h σ G H _ s fun G2 H2 g => by
  cases b with
  | true => rw [if_pos rfl]; exact h1 rfl σ G2 H2 Q (s.grow g) fun v G3 H3 g3 r3 => k v G3 H3 (g.trans g3) r3
  | false => rw [if_neg Bool.false_ne_true]; exact h2 rfl σ G2 H2 Q (s.grow g) fun v G3 H3 g3 r3 => k v G3 H3 (g.trans g3) r3
/-- a < b < c -/
theorem ev_chain {r r' : R2} {a b : Bool} {dx dy dz : D} (ha : Ev E ta δ dx) (hb : Ev E tb δ dy) (hr : OpD E r dx dy (.bool a)) (hc : a = true → Ev E tc δ dz) (hr' : a = true → OpD E r' dy dz (.bool b)) : Ev E (tChain r r' ta tb tc) δ (.bool (a && b)) := fun σ G H Q s k =>
  ha σ G H _ s fun x G1 H1 g1 r1 => hb σ G1 H1 _ (s.grow g1) fun y G2 H2 g2 r2 => hr G2 H2 x y _ g2.i (sameE s (g1.trans g2)) (Rp.mono g2.g _ _ r1) r2 fun v G3 H3 g3 r3 => by
    refine ⟨a, r3, ?_⟩
    have g := (g1.trans g2).trans g3
    cases a with
    | true =>
      rw [if_pos rfl]
      exact hc rfl σ G3 H3 _ (s.grow g) fun z G4 H4 g4 r4 => hr' rfl G4 H4 y z Q g4.i (sameE s (g.trans g4)) (Rp.mono (g3.g.trans g4.g) _ _ r2) r4 fun v G5 H5 g5 r5 => k v G5 H5 ((g.trans g4).trans g5) r5
    | false => rw [if_neg Bool.false_ne_true]; exact k _ G3 H3 g rfl

/-! ### arguments, displays -/
theorem ed_nil : Ed E tNil δ [] := fun σ G H Q s k => k [] G H (Gr.refl s.i) rfl
theorem ed_cons {tr : TA} {ds : List D} (h : Ev E ta δ d) (hr : Ed E tr δ ds) : Ed E (tCons ta tr) δ (d :: ds) := fun σ G H Q s k =>
  h σ G H _ s fun v G1 H1 g1 r1 => hr σ G1 H1 _ (s.grow g1) fun us G2 H2 g2 r2 => k (v :: us) G2 H2 (g1.trans g2) ⟨v, us, rfl, Rp.mono g2.g _ _ r1, r2⟩
theorem ArgR.grow {K : PySem.W.Frag} {G H G2 H2 : Hp} (g : Gr G H G2 H2) : ∀ {a : Sl} {v : V}, ArgR K G H a v → ArgR K G2 H2 a v
  | .d _, _, h => Rp.mono g.g _ _ h
  | .v _, _, h => h
  | .s _, _, ⟨a, h1, h2⟩ => ⟨a, h1, Same.seq g.h h2⟩
  | .no, _, h => h.elim
  | .ow _, _, h => h.elim
theorem ea_nil : Ea E tNil δ [] := fun σ G H Q s k => k [] G H (Gr.refl s.i) rfl
theorem ea_d {tr : TA} {as : List Sl} (h : Ev E ta δ d) (hr : Ea E tr δ as) : Ea E (tCons ta tr) δ (.d d :: as) := fun σ G H Q s k =>
  h σ G H _ s fun v G1 H1 g1 r1 => hr σ G1 H1 _ (s.grow g1) fun us G2 H2 g2 r2 => k (v :: us) G2 H2 (g1.trans g2) ⟨v, us, rfl, Rp.mono g2.g _ _ r1, r2⟩
theorem ea_s {tr : TA} {as : List Sl} {i : Nat} {ns : List Int} (h : δ[i]? = some (.s ns)) (hr : Ea E tr δ as) : Ea E (tCons (tVar i) tr) δ (.s ns :: as) := fun σ G H Q s k => by
  obtain ⟨a, ho, q⟩ := s.atS h
  refine ⟨.ref a, ho, hr σ G H _ s fun us G2 H2 g2 r2 => k (.ref a :: us) G2 H2 g2 ⟨_, us, rfl, ⟨a, rfl, ?_⟩, r2⟩⟩
  exact Same.seq (sameE s g2) q
theorem ev_tup {t : TA} {ds : List D} (h : Ed E t δ ds) (hl : ds.length ≤ 100000) : Ev E (tTup t) δ (.tuple ds) := fun σ G H Q s k => h σ G H _ s fun us G1 H1 g1 r1 => by
  refine ⟨by rw [r1.len]; exact Nat.le_trans hl (by decide), fun p hp => ?_⟩
  have gp : G1 p = none := g1.i.free hp
  exact k (.ref p) _ _ (g1.trans (Gr.new g1.i hp)) ⟨p, us, rfl, upd_same, RpA.mono (same_new gp) _ _ r1⟩
theorem evF_lst {t : TA} {ds : List D} (h : Ed E t δ ds) (hl : ds.length ≤ 100000) : EvF E (tLst t) δ ds := fun σ G H Q s k => h σ G H _ s fun us G1 H1 g1 r1 => by
  refine ⟨by rw [r1.len]; exact Nat.le_trans hl (by decide), fun p hp => ?_⟩
  exact k p us G1 _ (g1.trans (Gr.side g1.i (same_new hp))) (g1.h.free hp) (g1.i.free hp) upd_same r1
theorem ev_lst {t : TA} {ds : List D} (h : Ed E t δ ds) (hl : ds.length ≤ 100000) : Ev E (tLst t) δ (.list ds) := (evF_lst h hl).ev
theorem ev_cb {rc : List V → Hp → VK → Prop} {t : TA} {ds : List D} (h : Ed E t δ ds) (hr : CaD E rc ds d) : Ev E (tCB rc t) δ d := fun σ G H Q s k =>
  h σ G H _ s fun us G1 H1 g1 r1 => hr G1 H1 us Q g1.i (sameE s g1) r1 fun v G2 H2 g2 r2 => k v G2 H2 (g1.trans g2) r2
theorem evF_cb {rc : List V → Hp → VK → Prop} {t : TA} {ds es : List D} (h : Ed E t δ ds) (hr : CaF E rc ds es) : EvF E (tCB rc t) δ es := fun σ G H Q s k =>
  h σ G H _ s fun us G1 H1 g1 r1 => hr G1 H1 us Q g1.i (sameE s g1) r1 fun p vs G2 H2 g2 hp gp h2 r2 => k p vs G2 H2 (g1.trans g2) (g1.h.free hp) gp h2 r2
/-- a list, a tuple of data is one that may be read -/
theorem sqL_of {K : PySem.W.Frag} {G H : Hp} {a : Addr} {vs : List V} (i : Same G H) (h : G a = some (.lst vs)) : SqL K H a vs := SqL.of (i _ _ h)
theorem sqT_of {K : PySem.W.Frag} {G H : Hp} {a : Addr} {vs : List V} (i : Same G H) (h : G a = some (.tup vs)) : SqT K H a vs := SqT.of (i _ _ h)

/-! ### calls -/
/-- a def on data: what it is handed, what it hands back -/
def spR (K : PySem.W.Frag) (R : List Sl → D → Prop) : Sp := fun vs H Q _ => ∃ G as d, Same G H ∧ ArgsR K G H as vs ∧ R as d ∧ ∀ v G2 H2, Gr G H G2 H2 → Rp G2 d v → Q v H2
/-- .. that hands back a new list -/
def spF (K : PySem.W.Frag) (R : List Sl → List D → Prop) : Sp := fun vs H Q _ => ∃ G as ds, Same G H ∧ ArgsR K G H as vs ∧ R as ds ∧ ∀ p us G2 H2, Gr G H G2 H2 → H p = none → G2 p = none → H2 p = some (.lst us) → RpA G2 ds us → Q (.ref p) H2
theorem ev_call {R : List Sl → D → Prop} {t : TA} {as : List Sl} {XE : XK} (h : Ea E t δ as) (hR : R as d) : Ev E (tCall (spR E.K R) [] XE t) δ d := fun σ G H Q s k =>
  h σ G H _ s fun us G1 H1 g1 r1 => by
    rw [List.append_nil]
    exact ⟨G1, as, d, g1.i, r1, hR, fun v G2 H2 g2 r2 => k v G2 H2 (g1.trans g2) r2⟩
theorem evF_call {R : List Sl → List D → Prop} {t : TA} {as : List Sl} {ds : List D} {XE : XK} (h : Ea E t δ as) (hR : R as ds) : EvF E (tCall (spF E.K R) [] XE t) δ ds := fun σ G H Q s k =>
  h σ G H _ s fun us G1 H1 g1 r1 => by
    rw [List.append_nil]
    exact ⟨G1, as, ds, g1.i, r1, hR, fun p vs G2 H2 g2 hp gp h2 r2 => k p vs G2 H2 (g1.trans g2) (g1.h.free hp) gp h2 r2⟩
end
end PL

/-! PStm: statements, loops, comprehensions over pure data. -/
namespace PL
open PySem L2

/-- how a statement ends (rm: a value handed back that the last slot tells of, with what has become of the slots): on with slots | a datum handed back | a new list handed back | a new dict handed back | a new structure handed back | break | continue -/
inductive Out where
  | nx (δ : List Sl) | rt (d : D) | rl (ds : List D) | rk (kvs : List (Key × D)) | rf (d : D) | bk (δ : List Sl) | ct (δ : List Sl) | rm (δ : List Sl) (r : Sl)
def Post (E : Ent) (G : Hp) (X : Ends) : Out → Prop
  | .nx δ => ∀ σ G' H', Same G G' → St E δ σ G' H' → X.nx σ H'
  | .rt d => ∀ v G' H', Gr E.G E.H G' H' → Rp G' d v → X.rt v H'
  | .rl ds => ∀ p vs G' H', Gr E.G E.H G' H' → E.H p = none → G' p = none → H' p = some (.lst vs) → RpA G' ds vs → X.rt (.ref p) H'
  | .rk kvs => ∀ p ks G' H', Gr E.G E.H G' H' → E.H p = none → G' p = none → H' p = some (.dK ks) → RpK G' kvs ks → X.rt (.ref p) H'
  | .rf d => ∀ v F H', Same E.H H' → Same F H' → (∀ a, F a ≠ none → E.H a = none) → Rp F d v → X.rt v H'
  | .bk δ => ∀ σ G' H', Same G G' → St E δ σ G' H' → X.bk σ H'
  | .ct δ => ∀ σ G' H', Same G G' → St E δ σ G' H' → X.ct σ H'
  | .rm δ r => ∀ v σ G' H', Same G G' → St E (δ ++ [r]) (σ ++ [some v]) G' H' → X.rt v H'
def Xs (E : Ent) (ts : TS) (δ : List Sl) (Φ : Out → Prop) : Prop := ∀ σ G H X, St E δ σ G H → (∀ o, Φ o → Post E G X o) → ts X σ H
theorem St.gr {E : Ent} {δ : List Sl} {σ : L2.St} {G H : Hp} (s : St E δ σ G H) : Gr E.G E.H G H := ⟨s.g, s.h, s.n, s.i⟩
theorem Post.mono {E : Ent} {G G' : Hp} {X : Ends} (e : Same G G') : ∀ {o : Out}, Post E G X o → Post E G' X o
  | .nx _, h => fun σ G2 H2 e2 => h σ G2 H2 (e.trans e2)
  | .rt _, h => h
  | .rl _, h => h
  | .rk _, h => h
  | .rf _, h => h
  | .bk _, h => fun σ G2 H2 e2 => h σ G2 H2 (e.trans e2)
  | .ct _, h => fun σ G2 H2 e2 => h σ G2 H2 (e.trans e2)
  | .rm _ _, h => fun v σ G2 H2 e2 => h v σ G2 H2 (e.trans e2)

section
variable {E : Ent} {δ δ' : List Sl} {ta tb te tc : TE} {tt tu : TT} {d d1 d2 : D} {t u : TS} {Φ Ψ : Out → Prop}
theorem Xs.imp (h : Xs E t δ Φ) (k : ∀ o, Φ o → Ψ o) : Xs E t δ Ψ := fun σ G H X s p => h σ G H X s fun o q => p o (k o q)
/-- what is wanted of the first of two -/
def Then (E : Ent) (u : TS) (Φ : Out → Prop) : Out → Prop
  | .nx δ => Xs E u δ Φ
  | o => Φ o
theorem xs_seq (h : Xs E t δ (Then E u Φ)) : Xs E (tSeq t u) δ Φ := fun σ G H X s p => h σ G H { X with nx := u X } s fun o q => by
  cases o with
  | nx δ1 => exact fun σ1 G1 H1 e1 s1 => q σ1 G1 H1 X s1 fun o' q' => (p o' q').mono e1
  | rt d => exact p _ q
  | rl d => exact p _ q
  | rk d => exact p _ q
  | rf d => exact p _ q
  | rm _ _ => exact p _ q
  | bk d => exact p _ q
  | ct d => exact p _ q
theorem xs_next (h : Φ (.nx δ)) : Xs E tNext δ Φ := fun σ G H X s p => p _ h σ G H (Same.refl G) s
theorem xs_brk (h : Φ (.bk δ)) : Xs E tBreak δ Φ := fun σ G H X s p => p _ h σ G H (Same.refl G) s
theorem xs_cont (h : Φ (.ct δ)) : Xs E tCont δ Φ := fun σ G H X s p => p _ h σ G H (Same.refl G) s
theorem xs_forget (i : Nat) (h : Xs E t (δ.set i .no) Φ) : Xs E t δ Φ := fun σ G H X s p => h σ G H X (s.forget i) p
theorem xs_share {i : Nat} {xs : List D} (o : δ[i]? = some (.ow xs)) (h : Xs E t (δ.set i (.d (.list xs))) Φ) : Xs E t δ Φ := fun σ G H X s p => by
  obtain ⟨q, vs, h1, h2, h3, h4, h5, s'⟩ := s.share o
  exact h σ _ H X s' fun o q => (p o q).mono (same_new h4)
theorem xs_asg {i : Nat} (h : Ev E te δ d) (k : Φ (.nx (δ.set i (.d d)))) : Xs E (tAsg te (gName i)) δ Φ := fun σ G H X s p => h σ G H _ s fun v G1 H1 g r => p _ k _ G1 H1 g.g ((s.grow g).setD i r)
/-- x = a new list, its own from here on -/
theorem xs_asgF {i : Nat} {ds : List D} (h : EvF E te δ ds) (k : Φ (.nx (δ.set i (.ow ds)))) : Xs E (tAsg te (gName i)) δ Φ := fun σ G H X s p => h σ G H _ s fun q vs G1 H1 g hp gp h2 r => by
  exact p _ k _ G1 H1 g.g (s.setOw g i hp gp h2 r)
theorem xs_asgM {i : Nat} (h : EvM E te δ δ' d) (k : Φ (.nx (δ'.set i (.d d)))) : Xs E (tAsg te (gName i)) δ Φ := fun σ G H X s p => h σ G H _ s fun v G1 H1 g s1 r => p _ k _ G1 H1 g (s1.setD i r)
theorem xs_drop (h : EvM E te δ δ' d) (k : Φ (.nx δ')) : Xs E (tDrop te) δ Φ := fun σ G H X s p => h σ G H _ s fun v G1 H1 g s1 r => p _ k σ G1 H1 g s1
theorem xs_ret (h : Ev E te δ d) (k : Φ (.rt d)) : Xs E (tRet te) δ Φ := fun σ G H X s p => h σ G H _ s fun v G1 H1 g r => p _ k v G1 H1 (s.gr.trans g) r
theorem xs_retF {ds : List D} (h : EvF E te δ ds) (k : Φ (.rl ds)) : Xs E (tRet te) δ Φ := fun σ G H X s p => h σ G H _ s fun q vs G1 H1 g hp gp h2 r => p _ k q vs G1 H1 (s.gr.trans g) (s.h.free hp) gp h2 r
/-- return x, x an own list -/
theorem xs_retO {i : Nat} {xs : List D} (o : δ[i]? = some (.ow xs)) (k : Φ (.rl xs)) : Xs E (tRet (tVar i)) δ Φ := fun σ G H X s p => by
  obtain ⟨q, vs, ho, h2, h3, h4, h5⟩ := s.atOw o
  exact ⟨.ref q, ho, p _ k q vs G H s.gr h5 h4 h2 h3⟩
/-- return x, x an own dict -/
theorem xs_retOd {i : Nat} {xs : List (Key × D)} (o : δ[i]? = some (.od xs)) (k : Φ (.rk xs)) : Xs E (tRet (tVar i)) δ Φ := fun σ G H X s p => by
  obtain ⟨q, vs, ho, h2, h3, h4, h5⟩ := s.atOd o
  exact ⟨.ref q, ho, p _ k q vs G H s.gr h5 h4 h2 h3⟩
theorem xs_retN (k : Φ (.rt .none)) : Xs E tRetN δ Φ := fun σ G H X s p => p _ k _ G H s.gr rfl
theorem xs_if {b : Bool} (h : Et E tt δ b) (h1 : b = true → Xs E t δ Φ) (h2 : b = false → Xs E u δ Φ) : Xs E (tIfS tt t u) δ Φ := fun σ G H X s p => h σ G H _ s fun G1 H1 g => by
  cases b with
  | true => rw [if_pos rfl]; exact h1 rfl σ G1 H1 X (s.grow g) fun o q => (p o q).mono g.g
  | false => rw [if_neg Bool.false_ne_true]; exact h2 rfl σ G1 H1 X (s.grow g) fun o q => (p o q).mono g.g
theorem xs_never (h : False) : Xs E t δ Φ := h.elim

/-! in a row -/
theorem q_asg {i : Nat} (h : Ev E te δ d) (k : Xs E u (δ.set i (.d d)) Φ) : Xs E (tSeq (tAsg te (gName i)) u) δ Φ := xs_seq (xs_asg h k)
theorem q_asgF {i : Nat} {ds : List D} (h : EvF E te δ ds) (k : Xs E u (δ.set i (.ow ds)) Φ) : Xs E (tSeq (tAsg te (gName i)) u) δ Φ := xs_seq (xs_asgF h k)
theorem q_asgM {i : Nat} (h : EvM E te δ δ' d) (k : Xs E u (δ'.set i (.d d)) Φ) : Xs E (tSeq (tAsg te (gName i)) u) δ Φ := xs_seq (xs_asgM h k)
theorem q_drop (h : EvM E te δ δ' d) (k : Xs E u δ' Φ) : Xs E (tSeq (tDrop te) u) δ Φ := xs_seq (xs_drop h k)
theorem q_if {b : Bool} (h : Et E tt δ b) {t2 : TS} (h1 : b = true → Xs E t δ (Then E u Φ)) (h2 : b = false → Xs E t2 δ (Then E u Φ)) : Xs E (tSeq (tIfS tt t t2) u) δ Φ := xs_seq (xs_if h h1 h2)
/-- if ..: (no else), then the rest -/
theorem q_when {b : Bool} (h : Et E tt δ b) (h1 : b = true → Xs E t δ (Then E u Φ)) (h2 : b = false → Xs E u δ Φ) : Xs E (tSeq (tIfS tt t tNext) u) δ Φ := xs_seq (xs_if h h1 fun e => xs_next (h2 e))
end

/-! ### targets -/
def Tg (E : Ent) (js : List Nat) (g : TG) (x : D) (δ δ' : List Sl) : Prop := ∀ σ G H (Q : L2.St → Hp → Prop) v, St E δ σ G H → Rp G x v → (∀ σ', St E δ' σ' G H → (∀ vs : List Nat, (∀ j ∈ js, j ∈ vs) → wipe σ' vs = wipe σ vs) → Q σ' H) → g v σ H Q
def TgA (E : Ent) (js : List Nat) (g : TGs) (xs : List D) (δ δ' : List Sl) : Prop := ∀ σ G H (Q : L2.St → Hp → Prop) vs, St E δ σ G H → RpA G xs vs → (∀ σ', St E δ' σ' G H → (∀ vs : List Nat, (∀ j ∈ js, j ∈ vs) → wipe σ' vs = wipe σ vs) → Q σ' H) → g vs σ H Q
theorem wipe_get (σ : L2.St) (i : Nat) : ∀ vs : List Nat, (wipe σ vs)[i]? = if i ∈ vs then (if i < σ.length then some none else none) else σ[i]?
  | [] => by simp [wipe]
  | v :: vs => by
    have ih := wipe_get σ i vs
    unfold wipe
    rw [List.getElem?_set, wipe_length]
    by_cases e : v = i
    · subst e; simp
    · rw [if_neg e, ih]
      have : (i ∈ v :: vs) ↔ i ∈ vs := by simp [Ne.symm e]
      by_cases h : i ∈ vs
      · rw [if_pos h, if_pos (this.mpr h)]
      · rw [if_neg h, if_neg (fun z => h (this.mp z))]
theorem wipe_set {σ : L2.St} {j : Nat} {o : Option V} {vs : List Nat} (h : j ∈ vs) : wipe (σ.set j o) vs = wipe σ vs := by
  apply List.ext_getElem?
  intro i
  rw [wipe_get, wipe_get, List.length_set]
  by_cases hi : i ∈ vs
  · rw [if_pos hi, if_pos hi]
  · rw [if_neg hi, if_neg hi, List.getElem?_set_ne (fun e => hi (by rw [← e]; exact h))]
theorem wipe_wipe (σ : L2.St) (vs : List Nat) : wipe (wipe σ vs) vs = wipe σ vs := by
  apply List.ext_getElem?
  intro i
  rw [wipe_get, wipe_get, wipe_length]
  by_cases hi : i ∈ vs <;> simp [hi]
def wipeS (δ : List Sl) : List Nat → List Sl
  | [] => δ
  | v :: vs => (wipeS δ vs).set v .no
theorem St.wiped {E : Ent} {δ : List Sl} {σ : L2.St} {G H : Hp} (s : St E δ σ G H) : ∀ vs : List Nat, St E (wipeS δ vs) (wipe σ vs) G H
  | [] => s
  | v :: vs => by
    exact (s.wiped vs).putB v .no none trivial
section
variable {E : Ent} {δ δ' δ2 : List Sl} {K : PySem.W.Frag}
theorem tg_name {j : Nat} {x : D} : Tg E [j] (gName j) x δ (δ.set j (.d x)) := fun σ G H Q v s r k => k _ (s.setD j r) fun vs h => wipe_set (h j (by simp))
theorem tga_nil : TgA E [] gNil [] δ δ := fun σ G H Q vs s r k => ⟨r, k σ s fun _ _ => rfl⟩
theorem tga_cons {js ks : List Nat} {g : TG} {gs : TGs} {x : D} {xs : List D} (h : Tg E js g x δ δ2) (hs : TgA E ks gs xs δ2 δ') : TgA E (js ++ ks) (gCons g gs) (x :: xs) δ δ' := fun σ G H Q vs s r k => by
  obtain ⟨v, us, e, r1, r2⟩ := r
  refine ⟨v, us, e, h σ G H _ v s r1 fun σ1 s1 w1 => hs σ1 G H Q us s1 r2 fun σ2 s2 w2 => k σ2 s2 fun vs q => ?_⟩
  rw [w2 vs fun j hj => q j (List.mem_append_right _ hj), w1 vs fun j hj => q j (List.mem_append_left _ hj)]
theorem tg_tup {js : List Nat} {n : Nat} {gs : TGs} {xs : List D} (h : TgA E js gs xs δ δ') (hn : xs.length = n) : Tg E js (gTup K n gs) (.tuple xs) δ δ' := fun σ G H Q v s r k => by
  obtain ⟨a, vs, e, h1, h2⟩ := r
  exact ⟨a, vs, e, sqT_of s.i h1, by rw [h2.len, hn], h σ G H Q vs s h2 k⟩
theorem tg_two {i j n : Nat} {x y : D} (hn : 2 = n := by rfl) : Tg E [i, j] (gTup K n (gCons (gName i) (gCons (gName j) gNil))) (.tuple [x, y]) δ ((δ.set i (.d x)).set j (.d y)) := tg_tup (tga_cons tg_name (tga_cons tg_name tga_nil)) hn
/-- a, b = e -/
theorem xs_asgT {js : List Nat} {te : TE} {g : TG} {x : D} {Φ : Out → Prop} (h : Ev E te δ x) (hg : Tg E js g x δ δ') (k : Φ (.nx δ')) : Xs E (tAsg te g) δ Φ := fun σ G H X s p => h σ G H _ s fun v G1 H1 g1 r => hg σ G1 H1 _ v (s.grow g1) r fun σ' s' _ => p _ k σ' G1 H1 g1.g s'
theorem xs_asgTM {js : List Nat} {te : TE} {g : TG} {x : D} {Φ : Out → Prop} (h : EvM E te δ δ2 x) (hg : Tg E js g x δ2 δ') (k : Φ (.nx δ')) : Xs E (tAsg te g) δ Φ := fun σ G H X s p => h σ G H _ s fun v G1 H1 g1 s1 r => hg σ G1 H1 _ v s1 r fun σ' s' _ => p _ k σ' G1 H1 g1 s'
end

/-! ### what is walked -/
/-- J gives the data xs one by one, while what stands in Gs stands -/
def WalkD (J : It) (Gs : Hp) (xs : List D) : Prop := Walk J xs.length (fun H => Same Gs H) fun i H v H' => ∀ G, Same Gs G → Same G H → ∃ G' x, xs[i]? = some x ∧ Gr G H G' H' ∧ Rp G' x v
/-- .. while what stood in Hs stands (a comprehension) -/
def WalkC (J : It) (Gs Hs : Hp) (xs : List D) : Prop := Walk J xs.length (fun H => Same Hs H) fun i H v H' => ∀ G, Same Gs G → Same G H → ∃ G' x, xs[i]? = some x ∧ Gr G H G' H' ∧ Rp G' x v
theorem WalkD.c {J : It} {Gs Hs : Hp} {xs : List D} (w : WalkD J Gs xs) (i : Same Gs Hs) : WalkC J Gs Hs xs := Walk.mono w (fun _ h => i.trans h) fun _ _ _ _ _ _ y => y
def EvIc (E : Ent) (wi : TI) (δ : List Sl) (xs : List D) : Prop := ∀ σ G H (R : It → Hp → Prop), St E δ σ G H → (∀ J G2 H2, Gr G H G2 H2 → WalkC J G2 H2 xs → R J H2) → wi σ H R
def EvI (E : Ent) (wi : TI) (δ : List Sl) (xs : List D) : Prop := ∀ σ G H (R : It → Hp → Prop), St E δ σ G H → (∀ J G2 H2, Gr G H G2 H2 → WalkD J G2 xs → R J H2) → wi σ H R
theorem EvI.c {E : Ent} {wi : TI} {δ : List Sl} {xs : List D} (h : EvI E wi δ xs) : EvIc E wi δ xs := fun σ G H R s k => h σ G H R s fun J G2 H2 g w => k J G2 H2 g (w.c g.i)
section
variable {E : Ent} {δ δ' : List Sl} {te : TE} {K : PySem.W.Frag} {xs : List D}
theorem walkD_list {G : Hp} {a : Addr} {vs : List V} (h : G a = some (.lst vs)) (r : RpA G xs vs) : WalkD (Itl K a) G xs := by
  have w := (walk_list (K := K) (a := a) (xs := vs)).mono (G' := fun H => Same G H) (Y' := fun i H v H' => ∀ G', Same G G' → Same G' H → ∃ G2 x, xs[i]? = some x ∧ Gr G' H G2 H' ∧ Rp G2 x v) (fun H s => SqL.of (s _ _ h)) fun i H v H' hi s y G' e1 e2 => by
    obtain ⟨e, hv⟩ := y
    subst e
    rw [r.len] at hi
    obtain ⟨v', h1, h2⟩ := r.get (List.getElem?_eq_getElem hi)
    rw [hv] at h1; cases h1
    exact ⟨G', _, List.getElem?_eq_getElem hi, Gr.refl e2, Rp.mono e1 _ _ h2⟩
  rw [r.len] at w
  exact w
theorem ei_list (h : Ev E te δ (.list xs)) : EvI E (iList K te) δ xs := fun σ G H R s k => h σ G H _ s fun v G1 H1 g r => by
  obtain ⟨a, vs, e, h1, h2⟩ := r
  exact ⟨a, e, ⟨vs, sqL_of g.i h1⟩, k _ G1 H1 g (walkD_list h1 h2)⟩
theorem walkD_tup {G : Hp} {a : Addr} {vs : List V} (h : G a = some (.tup vs)) (r : RpA G xs vs) : WalkD (Itt K a) G xs := by
  have w := (walk_tup (K := K) (a := a) (xs := vs)).mono (G' := fun H => Same G H) (Y' := fun i H v H' => ∀ G', Same G G' → Same G' H → ∃ G2 x, xs[i]? = some x ∧ Gr G' H G2 H' ∧ Rp G2 x v) (fun H s => SqT.of (s _ _ h)) fun i H v H' hi s y G' e1 e2 => by
    obtain ⟨e, hv⟩ := y
    subst e
    rw [r.len] at hi
    obtain ⟨v', h1, h2⟩ := r.get (List.getElem?_eq_getElem hi)
    rw [hv] at h1; cases h1
    exact ⟨G', _, List.getElem?_eq_getElem hi, Gr.refl e2, Rp.mono e1 _ _ h2⟩
  rw [r.len] at w
  exact w
theorem ei_tup (h : Ev E te δ (.tuple xs)) : EvI E (iTup K te) δ xs := fun σ G H R s k => h σ G H _ s fun v G1 H1 g r => by
  obtain ⟨a, vs, e, h1, h2⟩ := r
  exact ⟨a, e, ⟨vs, sqT_of g.i h1⟩, k _ G1 H1 g (walkD_tup h1 h2)⟩
/-- the intsD lo, lo + 1, .. -/
def intsD (lo : Int) (n : Nat) : List D := (List.range n).map fun (i : Nat) => .int (lo + (i : Int))
theorem intsD_len (lo : Int) (n : Nat) : (intsD lo n).length = n := by simp [intsD]
theorem intsD_get {lo : Int} {n i : Nat} (h : i < n) : (intsD lo n)[i]? = some (.int (lo + (i : Int))) := by
  unfold intsD
  rw [List.getElem?_map, List.getElem?_range h]
  rfl
theorem walkD_range {G : Hp} {lo : Int} {n : Nat} : WalkD (Itr lo n) G (intsD lo n) := by
  unfold WalkD
  rw [intsD_len]
  exact (walk_range (lo := lo) (n := n)).mono (fun _ _ => trivial) fun i H v H' hi s y G' e1 e2 => by
    obtain ⟨e, hv⟩ := y
    subst e hv
    exact ⟨G', _, intsD_get hi, Gr.refl e2, rfl⟩
theorem ei_range1 {ta : TA} {n : Int} (h : Ed E ta δ [.int n]) (hn : -1000000 ≤ n ∧ n ≤ 1000000) : EvI E (iRng1 ta) δ (intsD 0 n.toNat) := fun σ G H R s k => h σ G H _ s fun us G1 H1 g r => by
  obtain ⟨v, us', e1, e2, e3⟩ := r
  have e2 : v = .int n := e2
  have e3 : us' = [] := e3
  subst e1 e2 e3
  exact ⟨n, rfl, by omega, by omega, k _ G1 H1 g walkD_range⟩
theorem ei_range2 {ta : TA} {lo n : Int} (h : Ed E ta δ [.int lo, .int n]) (hn : -1000000 ≤ lo ∧ lo ≤ 1000000 ∧ -1000000 ≤ n ∧ n ≤ 1000000) : EvI E (iRng2 ta) δ (intsD lo (n - lo).toNat) := fun σ G H R s k => h σ G H _ s fun us G1 H1 g r => by
  obtain ⟨v, us', e1, e2, w, us'', e3, e4, e5⟩ := r
  have e2 : v = .int lo := e2
  have e4 : w = .int n := e4
  have e5 : us'' = [] := e5
  subst e1 e2 e3 e4 e5
  exact ⟨lo, n, rfl, ⟨by omega, by omega, by omega, by omega⟩, k _ G1 H1 g walkD_range⟩
/-- enumerate -/
def enumD (xs : List D) : List D := xs.mapIdx fun i x => .tuple [.int (i : Int), x]
theorem walkD_enum {G : Hp} {a : Addr} {vs : List V} (h : G a = some (.lst vs)) (r : RpA G xs vs) : WalkD (Ite K a) G (enumD xs) := by
  have hlen : (enumD xs).length = vs.length := by simp [enumD, r.len]
  unfold WalkD
  rw [hlen]
  refine (walk_enum (K := K) (a := a) (xs := vs)).mono (fun H s => SqL.of (s _ _ h)) fun i H v H' hi s y G' e1 e2 => ?_
  obtain ⟨T, x, z, hv, hT, hH, hx, hz⟩ := y
  subst hv hH
  cases hx
  rw [r.len] at hi
  obtain ⟨v', h1, h2⟩ := r.get (List.getElem?_eq_getElem hi)
  have hz : vs[i]? = some z := hz
  rw [hz] at h1; cases h1
  have gT : G' T = none := e2.free hT
  exact ⟨_, .tuple [.int (i : Int), xs[i]], by simp [enumD, List.getElem?_eq_getElem hi], Gr.new e2 hT, T, _, rfl, upd_same, _, _, rfl, rfl, _, _, rfl, Rp.mono (e1.trans (same_new gT)) _ _ h2, rfl⟩
theorem ei_enum {ta : TA} (h : Ed E ta δ [.list xs]) : EvI E (iEnum K ta) δ (enumD xs) := fun σ G H R s k => h σ G H _ s fun us G1 H1 g r => by
  obtain ⟨v, us', e1, ⟨a, vs, e2, h1, h2⟩, e3⟩ := r
  have e3 : us' = [] := e3
  subst e1 e2 e3
  exact ⟨a, vs, rfl, sqL_of g.i h1, k _ G1 H1 g (walkD_enum h1 h2)⟩
/-- a text's signs -/
def signsD (z : Str) : List D := z.cps.toList.map fun c => .str ⟨#[c]⟩
theorem walkD_str {G : Hp} {z : Str} : WalkD (Its z) G (signsD z) := by
  have hl : (signsD z).length = z.cps.size := by simp [signsD]
  unfold WalkD
  rw [hl]
  exact (walk_str (z := z)).mono (fun _ _ => trivial) fun i H v H' hi s y G' e1 e2 => by
    obtain ⟨e, c, hc, hv⟩ := y
    subst e hv
    exact ⟨G', .str ⟨#[c]⟩, by simp [signsD, hc], Gr.refl e2, rfl⟩
theorem ei_str {z : Str} (h : Ev E te δ (.str z)) : EvI E (iStr te) δ (signsD z) := fun σ G H R s k => h σ G H _ s fun v G1 H1 g r => ⟨z, r, k _ G1 H1 g walkD_str⟩
end

/-! ### for -/
section
variable {E : Ent} {δ δ' : List Sl} {te : TE} {tt : TT} {K : PySem.W.Frag} {xs : List D} {wi : TI} {g : TG} {tb : TS} {Φ : Out → Prop}
/-- what a turn is to end with -/
def TurnO (Inv : List Sl → Prop) (Φ : Out → Prop) : Out → Prop
  | .nx δ => Inv δ
  | .ct δ => Inv δ
  | .bk δ => Φ (.nx δ)
  | .rt d => Φ (.rt d)
  | .rl d => Φ (.rl d)
  | .rk d => Φ (.rk d)
  | .rm δ r => Φ (.rm δ r)
  | .rf d => Φ (.rf d)
theorem xs_for (hi : EvI E wi δ xs) (Inv : Nat → List Sl → Prop) (h0 : Inv 0 δ) (turn : ∀ i x δ', xs[i]? = some x → Inv i δ' → ∃ js δ2, Tg E js g x δ' δ2 ∧ Xs E tb δ2 (TurnO (Inv (i + 1)) Φ)) (done : ∀ δ', Inv xs.length δ' → Φ (.nx δ')) :
    Xs E (tFor wi g tb) δ Φ := fun σ G H X s p => hi σ G H _ s fun J G1 H1 g1 w => by
  refine for_it w (fun i σ' H' => ∃ δ' G', Same G1 G' ∧ Inv i δ' ∧ St E δ' σ' G' H') ⟨δ, G1, Same.refl _, h0, s.grow g1⟩ (fun i σ' H' _ ⟨δ', G', e, _, s'⟩ => e.trans s'.i) (fun i v σ' H' H2 hi' ⟨δ', G', e, inv, s'⟩ y => ?_) (fun σ' H' ⟨δ', G', e, inv, s'⟩ => p _ (done δ' inv) σ' G' H' (g1.g.trans e) s')
  obtain ⟨G2, x, hx, g2, r⟩ := y G' e s'.i
  obtain ⟨js, δ2, tg, body⟩ := turn i x δ' hx inv
  refine tg σ' G2 H2 _ v (s'.grow g2) r fun σ3 s3 _ => body σ3 G2 H2 _ s3 fun o q => ?_
  cases o with
  | nx δ3 => exact fun σ4 G4 H4 e4 s4 => ⟨δ3, G4, (e.trans g2.g).trans e4, q, s4⟩
  | ct δ3 => exact fun σ4 G4 H4 e4 s4 => ⟨δ3, G4, (e.trans g2.g).trans e4, q, s4⟩
  | bk δ3 => exact (p _ q).mono (G := G) (((g1.g.trans e).trans g2.g))
  | rt d => exact p _ q
  | rl d => exact p _ q
  | rk d => exact p _ q
  | rf d => exact p _ q
  | rm _ _ => exact (p _ q).mono (G := G) (((g1.g.trans e).trans g2.g))
theorem xs_while (W : Nat → List Sl → Prop) (m : Nat) (h0 : W m δ) (turn : ∀ m δ', W m δ' → ∃ b, Et E tt δ' b ∧ (b = true → Xs E tb δ' (TurnO (fun δ2 => ∃ m', m' < m ∧ W m' δ2) Φ)) ∧ (b = false → Φ (.nx δ'))) : Xs E (tWhile tt tb) δ Φ := fun σ G H X s p => by
  refine ⟨fun m σ' H' => ∃ δ' G', Same G G' ∧ W m δ' ∧ St E δ' σ' G' H', ⟨m, δ, G, Same.refl _, h0, s⟩, fun m σ' H' ⟨δ', G', e, w, s'⟩ => ?_⟩
  obtain ⟨b, hb, h1, h2⟩ := turn m δ' w
  refine hb σ' G' H' _ s' fun G2 H2 g2 => ?_
  cases b with
  | true =>
    rw [if_pos rfl]
    refine ⟨fun σ4 H4 => ∃ m', m' < m ∧ ∃ δ' G', Same G G' ∧ W m' δ' ∧ St E δ' σ4 G' H4, fun _ _ z => z, h1 rfl σ' G2 H2 _ (s'.grow g2) fun o q => ?_⟩
    cases o with
    | nx δ3 =>
      obtain ⟨m', hm, w'⟩ := q
      exact fun σ4 G4 H4 e4 s4 => ⟨m', hm, δ3, G4, (e.trans g2.g).trans e4, w', s4⟩
    | ct δ3 =>
      obtain ⟨m', hm, w'⟩ := q
      exact fun σ4 G4 H4 e4 s4 => ⟨m', hm, δ3, G4, (e.trans g2.g).trans e4, w', s4⟩
    | bk δ3 => exact (p _ q).mono (G := G) (e.trans g2.g)
    | rt d => exact p _ q
    | rl d => exact p _ q
    | rk d => exact p _ q
    | rf d => exact p _ q
    | rm _ _ => exact (p _ q).mono (G := G) (e.trans g2.g)
  | false =>
    rw [if_neg Bool.false_ne_true]
    exact p _ (h2 rfl) σ' G2 H2 (e.trans g2.g) (s'.grow g2)
/-- a comprehension: the data are those of ls, c tells which are taken, val what is made of them -/
theorem evF_lc {α : Type} (ls : List α) (enc : α → D) (c : α → Bool) (val : α → D) {vs : List Nat} (hi : EvIc E wi δ (ls.map enc)) (hz : ls.length ≤ 100000)
    (turn : ∀ a, a ∈ ls → ∃ js δ2, (∀ j ∈ js, j ∈ vs) ∧ Tg E js g (enc a) (wipeS δ vs) δ2 ∧ Et E tt δ2 (c a) ∧ (c a = true → Ev E te δ2 (val a))) : EvF E (tLc wi g tt te vs) δ ((ls.filter c).map val) := fun σ G H Q s k => hi σ G H _ s fun J G1 H1 g1 w => by
  intro Dl hD
  have s1 := s.grow g1
  have lenw : (ls.map enc).length = ls.length := List.length_map _
  have gD : G1 Dl = none := g1.i.free hD
  refine lc_it w (fun i H' => ∃ G' acc, Same G1 G' ∧ Same H1 H' ∧ Same G' H' ∧ (∀ a, H1 a ≠ none → G1 a = none → G' a = none) ∧ G' Dl = none ∧ H' Dl = some (.lst acc) ∧ RpA G' (((ls.take i).filter c).map val) acc) ⟨G1, [], Same.refl _, same_new hD, same_mut g1.i gD, fun _ _ h => h, gD, upd_same, rfl⟩ (fun i H' _ ⟨G', acc, e, eh, i', _⟩ => eh) (fun i v H' H2 hi' ⟨G', acc, e, eh, i', n', gd, hd, r⟩ y => ?_) (fun H' ⟨G', acc, e, eh, i', n', gd, hd, r⟩ => ?_)
  · obtain ⟨G2, x, hx, g2, rx⟩ := y G' e i'
    rw [lenw] at hi'
    have hx2 : x = enc ls[i] := by
      rw [List.getElem?_map, List.getElem?_eq_getElem hi'] at hx
      exact (Option.some.inj hx).symm
    subst hx2
    obtain ⟨js, δ2, hj, tg, test, elt⟩ := turn ls[i] (List.getElem_mem hi')
    have gr2 : Gr G1 H1 G2 H2 := (⟨e, eh, n', i'⟩ : Gr G1 H1 G' H').trans g2
    have s2 := (s1.grow gr2).wiped vs
    have tk : ls.take (i + 1) = ls.take i ++ [ls[i]] := by rw [List.take_succ, List.getElem?_eq_getElem hi']; rfl
    have hd2 : H2 Dl = some (.lst acc) := g2.h _ _ hd
    have gd2 : G2 Dl = none := g2.n Dl (by rw [hd]; simp) gd
    refine tg _ G2 H2 _ v s2 rx fun σ3 s3 wp => ⟨by rw [wp vs hj, wipe_wipe], test σ3 G2 H2 _ s3 fun G3 H3 g3 => ?_⟩
    have gr3 := gr2.trans g3
    have hd3 : H3 Dl = some (.lst acc) := g3.h _ _ hd2
    have gd3 : G3 Dl = none := g3.n Dl (by rw [hd2]; simp) gd2
    cases hc : c ls[i] with
    | true =>
      rw [if_pos rfl]
      refine elt hc σ3 G3 H3 _ (s3.grow g3) fun z G4 H4 g4 rz => ?_
      have gr4 := gr3.trans g4
      have hd4 : H4 Dl = some (.lst acc) := g4.h _ _ hd3
      have gd4 : G4 Dl = none := g4.n Dl (by rw [hd3]; simp) gd3
      have racc : RpA G4 (((ls.take i).filter c).map val) acc := RpA.mono ((g2.g.trans g3.g).trans g4.g) _ _ r
      refine ⟨acc, hd4, ?_, G4, acc ++ [z], gr4.g, same_mut gr4.h hD, same_mut gr4.i gd4, gr4.n, gd4, upd_same, ?_⟩
      · rw [racc.len, List.length_map]
        have h1 := List.length_filter_le c (ls.take i)
        have h2 := List.length_take_le i ls
        have h3 : (100000 : Nat) < sizeLine := by decide
        have h4 : (ls.take i).length ≤ ls.length := by rw [List.length_take]; omega
        omega
      · rw [tk, List.filter_append, List.map_append]
        have e1 : List.filter c [ls[i]] = [ls[i]] := by simp [hc]
        rw [e1]
        exact racc.snoc rz
    | false =>
      rw [if_neg Bool.false_ne_true]
      refine ⟨G3, acc, gr3.g, gr3.h, gr3.i, gr3.n, gd3, hd3, ?_⟩
      rw [tk, List.filter_append, List.map_append]
      have e1 : List.filter c [ls[i]] = [] := by simp [hc]
      rw [e1]
      simpa using RpA.mono (g2.g.trans g3.g) _ _ r
  · rw [lenw, List.take_length] at r
    exact k Dl acc G' H' ⟨g1.g.trans e, g1.h.trans eh, fun a ha ga => n' a (fun z => by
      cases q : H a with
      | none => exact ha q
      | some o => rw [g1.h a o q] at z; cases z) (g1.n a ha ga), i'⟩ (g1.h.free hD) gd hd r
/-- without an if -/
theorem et_yes : Et E tYes δ true := fun σ G H Q s k => k G H (Gr.refl s.i)
theorem evF_map {α : Type} (ls : List α) (enc : α → D) (val : α → D) {vs : List Nat} (hi : EvIc E wi δ (ls.map enc)) (hz : ls.length ≤ 100000)
    (turn : ∀ a, a ∈ ls → ∃ js δ2, (∀ j ∈ js, j ∈ vs) ∧ Tg E js g (enc a) (wipeS δ vs) δ2 ∧ Ev E te δ2 (val a)) : EvF E (tLc wi g tYes te vs) δ (ls.map val) := by
  have h := evF_lc (tt := tYes) ls enc (fun _ => true) val hi hz fun a ha => by
    obtain ⟨js, δ2, h1, h2, h3⟩ := turn a ha
    exact ⟨js, δ2, h1, h2, et_yes, fun _ => h3⟩
  have e : ls.filter (fun _ => true) = ls := by simp
  rw [e] at h
  exact h
end

/-! ### a def's promise from its body -/
def argSl (as : List Sl) (n : Nat) : List Sl := as ++ List.replicate n .no
theorem ArgsR.len {K : PySem.W.Frag} {G H : Hp} : ∀ {as : List Sl} {vs : List V}, ArgsR K G H as vs → vs.length = as.length
  | [], _, h => by cases h; rfl
  | _ :: _, _, ⟨_, _, h1, _, h3⟩ => by subst h1; simp [ArgsR.len h3]
theorem ArgsR.get {K : PySem.W.Frag} {G H : Hp} : ∀ {as : List Sl} {vs : List V} {i : Nat} {a : Sl}, ArgsR K G H as vs → as[i]? = some a → ∃ v, vs[i]? = some v ∧ ArgR K G H a v
  | [], _, _, _, _, e => by simp at e
  | _ :: _, _, 0, _, ⟨v, _, h1, h2, _⟩, e => by subst h1; simp at e; subst e; exact ⟨v, rfl, h2⟩
  | _ :: _, _, i + 1, _, ⟨_, _, h1, _, h3⟩, e => by
    subst h1
    obtain ⟨v, q1, q2⟩ := ArgsR.get (i := i) h3 (by simpa using e)
    exact ⟨v, by simpa using q1, q2⟩
theorem argR_noOw {K : PySem.W.Frag} {G H : Hp} {a : Sl} {v : V} (h : ArgR K G H a v) : ∀ xs, a ≠ .ow xs := fun xs e => by subst e; exact h
theorem st_start {K : PySem.W.Frag} {G H : Hp} {as : List Sl} {vs : List V} {N : List Str} (i : Same G H) (r : ArgsR K G H as vs) (hn : vs.length ≤ N.length) : St ⟨K, G, H⟩ (argSl as (N.length - as.length)) (start N vs) G H := by
  have hl := r.len
  have ss : start N vs = vs.map some ++ List.replicate (N.length - vs.length) none := rfl
  refine ⟨Same.refl G, Same.refl H, fun _ _ h => h, i, ?_, fun _ => none0, ⟨fun _ _ _ z => (nomatch z), fun _ _ z => absurd rfl z, fun _ _ _ _ z => absurd rfl z, fun j t o h1 h2 => ?_⟩⟩
  · rw [ss]; simp [argSl, hl]
  · rw [ss] at h2
    unfold argSl at h1
    by_cases hj : j < as.length
    · rw [List.getElem?_append_left hj] at h1
      rw [List.getElem?_append_left (by simp [hl, hj])] at h2
      obtain ⟨v, e1, e2⟩ := r.get h1
      rw [List.getElem?_map, e1] at h2
      cases h2
      cases t with
      | no => exact e2.elim
      | d x => exact ⟨v, rfl, e2⟩
      | v x => exact congrArg some e2
      | s ns => obtain ⟨a, q1, q2⟩ := e2; exact ⟨a, congrArg some q1, q2⟩
      | ow xs => exact e2.elim
      | od xs => exact e2.elim
      | ob P => exact e2.elim
    · rw [List.getElem?_append_right (by omega)] at h1
      have : t = .no := by
        obtain ⟨hlt, e⟩ := List.getElem?_eq_some_iff.mp h1
        simp at e
        exact e.symm
      subst this
      trivial
/-- a def's end: it hands d back (None where it runs through) -/
def RetOk (d : D) : Out → Prop
  | .rt d' => d' = d
  | .nx _ => d = .none
  | _ => False
theorem spR_run {K : PySem.W.Frag} {R : List Sl → D → Prop} {t : TS} {N : List Str} {vs : List V} {H : Hp} {Q : VK} {XE : XK} (hsp : spR K R vs H Q XE) (hn : vs.length ≤ N.length)
    (h : ∀ as d, R as d → ∀ E : Ent, E.K = K → Xs E t (argSl as (N.length - as.length)) (RetOk d)) : t { nx := fun _ H' => Q .non H', rt := Q } (start N vs) H := by
  obtain ⟨G, as, d, i, r, hR, k⟩ := hsp
  refine h as d hR ⟨K, G, H⟩ rfl (start N vs) G H _ (st_start i r hn) fun o e => ?_
  cases o with
  | rt d' =>
    have e : d' = d := e
    subst e
    exact fun v G' H' g r => k v G' H' g r
  | nx δ =>
    have e : d = .none := e
    subst e
    exact fun σ G' H' _ s => k .non G' H' s.gr rfl
  | rl _ => exact e.elim
  | rk _ => exact e.elim
  | rf _ => exact e.elim
  | rm _ _ => exact e.elim
  | bk _ => exact e.elim
  | ct _ => exact e.elim
theorem spF_run {K : PySem.W.Frag} {R : List Sl → List D → Prop} {t : TS} {N : List Str} {vs : List V} {H : Hp} {Q : VK} {XE : XK} (hsp : spF K R vs H Q XE) (hn : vs.length ≤ N.length)
    (h : ∀ as d, R as d → ∀ E : Ent, E.K = K → Xs E t (argSl as (N.length - as.length)) fun o => o = .rl d) : t { nx := fun _ H' => Q .non H', rt := Q } (start N vs) H := by
  obtain ⟨G, as, d, i, r, hR, k⟩ := hsp
  refine h as d hR ⟨K, G, H⟩ rfl (start N vs) G H _ (st_start i r hn) fun o e => ?_
  subst e
  exact fun p us G' H' g hp gp h2 r => k p us G' H' g hp gp h2 r
theorem spR_len {K : PySem.W.Frag} {R : List Sl → D → Prop} {n : Nat} {vs : List V} {H : Hp} {Q : VK} {XE : XK} (hsp : spR K R vs H Q XE) (h : ∀ as d, R as d → as.length = n) : vs.length = n := by
  obtain ⟨G, as, d, i, r, hR, k⟩ := hsp
  rw [r.len, h as d hR]
theorem spF_len {K : PySem.W.Frag} {R : List Sl → List D → Prop} {n : Nat} {vs : List V} {H : Hp} {Q : VK} {XE : XK} (hsp : spF K R vs H Q XE) (h : ∀ as d, R as d → as.length = n) : vs.length = n := by
  obtain ⟨G, as, d, i, r, hR, k⟩ := hsp
  rw [r.len, h as d hR]
end PL

/-! PSet: sorted(set(xs)), xs a list of whole numbers. -/
namespace PL
open PySem PySem.Spec PyProof.Rows L2
/-- the empty set's object, as its class makes it -/
abbrev emptySet (w : World) : Obj := { cls := .type "set", dict := none, data := .set #[] 0 (.fresh 0 0 (!w.params.followText "set-order")) }
/-- behind set(l) -/
def SetMade (w : World) (s : Shared) (ns : List Int) (s' : Shared) : Prop := ∃ h' tk c, s' = { s with heap := h', toks := tk } ∧ SetR w h' s.heap.objs.size (fun j => decide (j ∈ ns)) c ∧ c ≤ ns.length ∧ ∀ b o, s.heap.get? b = some o → h'.get? b = some o
section
variable {P : Program} {w : World} {A : Around} {E : Value → Shared → Prop} {s : Shared}
/-- what the list's ints are, one by one -/
theorem int_here {items : Array Value} {ns : List Int} (hi : IntsAre items.toList ns) (hz : items.size = ns.length) (i : Nat) (v : Value) (hv : items[i]? = some v) : ∃ k t, ns[i]? = some k ∧ v = .int k t := by
  have lt : i < ns.length := by rw [← hz]; exact (Array.getElem?_eq_some_iff.mp hv).1
  have hv' : items.toList[i]? = some v := by rw [Array.getElem?_toList]; exact hv
  obtain ⟨t, e⟩ := PyProof.Rows.IntsAre.int_at hi i v hv'
  exact ⟨ns[i], t, List.getElem?_eq_getElem lt, by rw [e, List.getD_eq_getElem?_getD, List.getElem?_eq_getElem lt]; rfl⟩
set_option maxHeartbeats 3200000 in
/-- the body of set.__init__ over a list, from the new set on -/
theorem init_set_list {l : Addr} {items : Array Value} {ns : List Int} {R : Value → Shared → Prop} (hh : A.handled = none) (hl : s.heap.IsList l items) (hi : IntsAre items.toList ns) (hb : ns.length + 1 < scanBound)
    (k : ∀ s', SetMade w s ns s' → R .none s') :
    wpAny (model P w) A.in1 (Builtin.«set.__init__» ⟨[.ref s.heap.objs.size, .ref l], []⟩) (fun f s' => ∃ r, f = .done (.ret r) ∧ R r s') E { s with heap := s.heap.push (emptySet w) } := by
  have hz : items.size = ns.length := by
    have q := IntsAre.length hi
    rwa [Array.length_toList] at q
  obtain ⟨ol, hol, hc, nl, hd⟩ := hl
  obtain ⟨ocls, odict, odata, oslots⟩ := ol
  simp only at hc hd
  subst hc hd
  have gl : (s.heap.push (emptySet w)).get? l = some ⟨.type "list", odict, .seq items nl, oslots⟩ := Heap.get?_push_of_some _ hol
  have gs : (s.heap.push (emptySet w)).get? s.heap.objs.size = some (emptySet w) := Heap.get?_push_size _ rfl
  have no1 := F.sub_list_set
  have no2 := F.sub_list_frozenset
  have no3 : (Value.type "list" == Value.type "dict") = false := by decide
  have isl : (s.heap.push (emptySet w)).IsList l items := ⟨_, gl, rfl, nl, rfl⟩
  unfold Builtin.«set.__init__» noKeywords Builtin.Frozenset.updateFrom
  generalize hPI : pyIter = PI
  wp_walk
  subst hPI
  refine wpAny_pyIter_list isl ?_
  refine wpAny_bind (wpAny_runValue ?_)
  have lt : l < s.heap.objs.size := Heap.lt_size hol
  have sz : (s.heap.push (emptySet w)).objs.size = s.heap.objs.size + 1 := Heap.size_push ..
  have quiet : A.in1.in1.handled = none := by simp [hh]
  have apart : l ≠ (s.heap.push (emptySet w)).objs.size := by rw [sz]; exact Nat.ne_of_lt (Nat.lt_succ_of_lt lt)
  have out : s.heap.objs.size ∉ [(s.heap.push (emptySet w)).objs.size, l] := by
    rw [sz]
    simp only [List.mem_cons, List.not_mem_nil, or_false, not_or]
    exact ⟨Nat.ne_of_lt (Nat.lt_succ_self _), Nat.ne_of_gt lt⟩
  have W := (Walks.list (prog := P) (w := w) quiet (s.heap.push (emptySet w)).objs.size l apart items).toS
  have begins : ((s.heap.push (emptySet w)).push { cls := .type "list_iterator", data := .fields #[.ref l, .int 0 0] }).get? s.heap.objs.size = some (emptySet w) := Heap.get?_push_of_some _ gs
  refine set_update_ints W s.heap.objs.size out ns hz hb (int_here hi hz) (items.size - 0) 0 { s with heap := (s.heap.push (emptySet w)).push { cls := .type "list_iterator", data := .fields #[.ref l, .int 0 0] } } (by omega) (Nat.zero_le _) ⟨⟨_, Heap.get?_push_size _ rfl, rfl, rfl⟩, isl.push _⟩ ⟨0, Nat.le_refl 0, by exact setR_new_at begins⟩ fun s' c' mv hc' hS' => ?_
  obtain ⟨h', g2, d', tk', os'⟩ := s'
  have eg : g2 = s.gens := mv.gens
  have ed : d' = s.drawn := mv.drawn
  have eo : os' = s.os := mv.os
  subst eg ed eo
  show wpAny _ _ _ _ _ _
  refine wpAny_pure ?_
  show wpAny _ _ (ret Value.none) _ _ _
  refine wpAny_pure ⟨_, rfl, k _ ⟨h', tk', c', rfl, hS', by rw [← hz]; exact hc', fun b o e => ?_⟩⟩
  have below : b < s.heap.objs.size := Heap.lt_size e
  refine mv.heap b o ?_ (Heap.get?_push_of_some _ (Heap.get?_push_of_some _ e))
  rw [sz]
  simp only [List.mem_cons, List.not_mem_nil, or_false, not_or]
  exact ⟨Nat.ne_of_lt below, Nat.ne_of_lt (Nat.lt_succ_of_lt below)⟩
set_option maxHeartbeats 3200000 in
/-- set(l), l a list of ints -/
theorem call_set_ints {l : Addr} {items : Array Value} (ns : List Int) {Q : Value → Shared → Prop} (hh : A.handled = none) (hl : s.heap.IsList l items) (hi : IntsAre items.toList ns) (hb : ns.length + 1 < scanBound)
    (k : ∀ s', SetMade w s ns s' → Q (.ref s.heap.objs.size) s') : wpAny (model P w) A (call (.type "set") [.ref l]) Q E s := by
  obtain ⟨c, tl, hmro⟩ := F.called_set.mro
  have hmade := F.called_set.made
  have hsub := F.called_set.sub
  refine wpAny_call (codeAny_of_tree ?_)
  show wpAny _ _ (callAny (.type "set") _) _ _ _
  refine wpAny_pure ⟨Code.quiet_builtin _ (by decide +kernel), codeAny_builtin F.entry_type_call ?_⟩
  rw [Around.under_plain (weight_type_call_type "set" [.ref l] []) rfl]
  have h1 := F.called_set.notType
  have h2 := F.called_set.canCreate
  have hct := F.typeCall_set_1 (.ref l)
  repeat (any_goals (first | assumption | wp_step))
  refine codeAny_mono (code_set_led1 (.ref l) (E := E) (Q₁ := fun v s₁ => v = .ref s.heap.objs.size ∧ s₁ = { s with heap := s.heap.push (emptySet w) }) ⟨rfl, rfl⟩) fun r s₁ hr => ?_
  cases r with
  | error e => exact hr
  | ok fl =>
    cases fl with
    | ret v =>
      obtain ⟨rfl, rfl⟩ := hr
      have gs : (s.heap.push (emptySet w)).get? s.heap.objs.size = some (emptySet w) := Heap.get?_push_size _ rfl
      have ty : Shared.TypeIs { s with heap := s.heap.push (emptySet w) } (.ref s.heap.objs.size) "set" := ⟨_, gs, rfl⟩
      have hli := F.called_set.init.lookup
      have hbi := F.called_set.init.bind (.ref s.heap.objs.size)
      repeat (any_goals (first | assumption | wp_step))
      refine codeAny_mono (codeAny_call_builtin (R := wants (fun r s₂ => r = .none ∧ SetMade w s ns s₂) E) F.called_set.init.plain F.entry_set_init (check_set_init_1 ty ?_)) fun r₂ s₂ hr₂ => ?_
      · refine wpAny_mono (init_set_list (R := fun r s' => r = .none ∧ SetMade w s ns s') (E := E) hh hl hi hb fun s' m => ⟨rfl, m⟩) ?_ fun _ _ z => z
        rintro a s1 ⟨r, rfl, m⟩
        exact m
      · cases r₂ with
        | error e => exact hr₂
        | ok fl₂ =>
          cases fl₂ with
          | ret r =>
            obtain ⟨rfl, h', tk', c', rfl, hS', hc', hk'⟩ := hr₂
            repeat (any_goals (first | assumption | wp_step))
            exact k _ ⟨h', _, c', rfl, hS', hc', hk'⟩
          | _ => exact hr₂.elim
    | _ => exact hr.elim
end

section
variable {P : Program} {w : World} {A : Around} {E : Value → Shared → Prop} {s : Shared}
theorem rising_lt : ∀ {l : List Int}, l.Pairwise (· ≤ ·) → l.Nodup → l.Pairwise (· < ·)
  | [], _, _ => .nil
  | x :: l, h, d => by
    obtain ⟨a, b⟩ := List.pairwise_cons.mp h
    obtain ⟨c, e⟩ := List.nodup_cons.mp d
    refine List.pairwise_cons.mpr ⟨fun y hy => ?_, rising_lt b e⟩
    have h1 := a y hy
    have h2 : x ≠ y := fun z => c (by rw [z]; exact hy)
    omega
theorem ints_back : ∀ {vs : List Value}, (∀ v ∈ vs, ∃ k t, v = Value.int k t) → IntsAre vs (vs.map SrtO.iv) := fun h => SrtO.ints_iv h
theorem key_iv {e : Int × Value} (g : GoodE e) : SrtO.iv e.2 = L2.keyOf e := by
  obtain ⟨k, t, h, _⟩ := g
  unfold L2.keyOf SrtO.iv
  rw [h]
/-- sorted(a), a a set of ints -/
theorem sorted_setAny {a : Addr} {S : Int → Bool} {n : Nat} {Q : Value → Shared → Prop} (R : SetR w s.heap a S n) (hh : A.handled = none)
    (hQ : ∀ s' p (out : List Value) (c : Nat) (ns : List Int), (∀ b o, s.heap.get? b = some o → s'.heap.get? b = some o) → s'.gens = s.gens → s'.os = s.os → s.heap.objs.size ≤ p →
      s'.heap.get? p = some (seqObj "list" out.toArray c) → IntsAre out ns → ns.Pairwise (· < ·) → (∀ k, k ∈ ns ↔ S k = true) → ns.length = n → Q (.ref p) s') : wpAny (model P w) A (call (.builtin "sorted") [.ref a]) Q E s := by
  obtain ⟨o, es, ep, t, ho, hex, hd, good, nd, mem, hb, hf, hn, ris, led⟩ := R
  have small : n + 1 < sizeLine := by
    have e1 : scanBound = 4096 := rfl
    have e2 : (4097 : Nat) < sizeLine := by decide
    omega
  refine Calls.call_function_entry kind_sorted plain_sorted entry_sorted (args_sorted1 _) ?_
  unfold Builtin.«sorted»
  refine wpAny_bind (m := checkCount "sorted" 1 1 _) (wpAny_pure ?_)
  refine wpAny_bind (collect_set (A := A.in1) hh ⟨o, ho, hex.1, hd⟩ hf hb ris led fun s1 vs keep1 fresh gens1 os1 perm => ?_)
  have lvs : vs.length = n := by
    rw [perm.length_eq, List.length_map, Array.length_toList]
    exact hn
  have are : IntsAre vs (vs.map SrtO.iv) := ints_back fun v hv => by
    obtain ⟨e, he, q⟩ := List.mem_map.mp (perm.mem_iff.mp hv)
    obtain ⟨k, tk, h1, _⟩ := good e he
    exact ⟨k, tk, q.symm.trans h1⟩
  have keys : (vs.map SrtO.iv).Perm (es.toList.map L2.keyOf) := by
    refine (perm.map SrtO.iv).trans ?_
    rw [List.map_map]
    exact List.Perm.of_eq (List.map_congr_left fun e he => key_iv (good e he))
  refine wpAny_bind (wpAny_newList ?_ (by omega))
  have there : (s1.heap.push (seqObj "list" vs.toArray 0)).get? s1.heap.objs.size = some (seqObj "list" vs.toArray 0) := Heap.get?_push_size _ rfl
  refine wpAny_bind (wpAny_holding (wpAny_call_entry slot_list_sort ⟨_, there, rfl⟩ entry_list_sort (SrtO.list_sort_ord SrtO.swo_int there (by omega) (fun h2 => SrtO.ints_sortable are h2) fun out h1 h2 => ⟨_, rfl, ?_⟩) (args_list_sort _)))
  obtain ⟨i1, i2, i3⟩ := SrtO.ints_out are h1 h2
  obtain ⟨c, hc⟩ := sortedHeap_at (vs := vs) (out := out.toArray) there
  have all : (out.map SrtO.iv).Perm (es.toList.map L2.keyOf) := i2.trans keys
  refine wpAny_pure ⟨_, rfl, hQ _ s1.heap.objs.size out c (out.map SrtO.iv) (fun b u e => ?_) gens1 os1 fresh hc i1 (rising_lt i3 (all.nodup_iff.mpr nd)) (fun k => ?_) ?_⟩
  · have q := keep1 b u e
    have lt := Heap.lt_size q
    show (sortedHeap (s1.heap.push (seqObj "list" vs.toArray 0)) s1.heap.objs.size vs out.toArray).get? b = some u
    rw [sortedHeap_old (Nat.ne_of_lt lt) (by rw [size_push']; exact Nat.lt_succ_of_lt lt)]
    exact Heap.get?_push_of_some _ q
  · rw [all.mem_iff, ← mem k]
  · rw [all.length_eq, List.length_map, Array.length_toList]; exact hn
end

/-! ### over the layer -/
section
variable {X : Cx}
/-- set(xs) -/
def rSetOf (K : PySem.W.Frag) (w : World) : List V → Hp → VK → Prop := fun xs H Q => ∃ (l : Addr) (ns : List Int), xs = [V.ref l] ∧ SqL K H l (ns.map V.int) ∧ ns.length ≤ 1000 ∧ ∀ p c, H p = none → Q (.ref p) (upd H p (SetO w p (fun j => decide (j ∈ ns)) c))
theorem cr_setL (hc : X.calm = true) : CallR X (.type "set") (rSetOf X.K X.w) := by
  intro pins s σ H xs us Q I r h
  obtain ⟨l, ns, rfl, hl, hz, q⟩ := h
  rw [Vals.ref1 r]
  obtain ⟨its, rv, pl, _⟩ := I.list hl
  have hb : ns.length + 1 < scanBound := by
    have e1 : scanBound = 4096 := rfl
    omega
  refine call_set_ints ns (I.ok.hd hc) pl.isList (by simpa using rv.ints) hb fun s' m => ?_
  obtain ⟨h', tk, c, rfl, R, _, keep⟩ := m
  exact ⟨.ref s.heap.objs.size, upd H s.heap.objs.size (SetO X.w s.heap.objs.size (fun j => decide (j ∈ ns)) c), I.laid (t' := tk) keep (Nat.le_refl _) (setO_new R), rfl, q _ c (I.hok.fresh (Nat.le_refl _))⟩
/-- sorted(set) -/
def rSrtS (w : World) : List V → Hp → VK → Prop := fun vs H Q => ∃ (a : Addr) (S : Int → Bool) (n : Nat), vs = [V.ref a] ∧ H a = some (SetO w a S n) ∧ ∀ (ns : List Int) (p : Addr), ns.Pairwise (· < ·) → (∀ k : Int, k ∈ ns ↔ S k = true) → H p = none → Q (.ref p) (upd H p (.lst (ns.map V.int)))
theorem cr_srtS (hc : X.calm = true) : CallR X (.builtin "sorted") (rSrtS X.w) := by
  intro pins s σ H vs us Q I r h
  obtain ⟨a, S, n, rfl, ha, q⟩ := h
  have R := setO_get I ha
  rw [Vals.ref1 r]
  have Rn := R
  obtain ⟨_, es, _, _, _, _, _, _, _, _, few, _, hn, _⟩ := Rn
  refine sorted_setAny R (I.ok.hd hc) fun s' p out c ns keep g o hp hg hi hs hm hl => ?_
  have hlen : (ns.map V.int).length ≤ sizeLine := by
    have e1 : scanBound = 4096 := rfl
    have e2 : (4097 : Nat) < sizeLine := by decide
    rw [List.length_map, hl]
    omega
  have hn : H p = none := I.hok.fresh hp
  have J : Inv X pins σ (upd H p (.lst (ns.map V.int))) { s with heap := s'.heap, gens := s'.gens, drawn := s'.drawn, toks := s'.toks } :=
    I.call (ch := []) (Un.laid keep hp hn) (I.hok.laid keep hp ⟨hlen, out, c, vals_of_ints hi, hg⟩) (by rw [g]; exact I.bare) (fun _ z => nomatch z)
  have e : s' = { s with heap := s'.heap, gens := s'.gens, drawn := s'.drawn, toks := s'.toks } := by
    cases s'
    cases s
    cases o
    rfl
  rw [e]
  exact ⟨.ref p, _, J, rfl, q ns p hs hm hn⟩
end
end PL

/-! POps: comparisons of data, items, lengths, built-ins, methods over pure data. -/
namespace PL
open PySem L2

/-! ### readings by name -/
def oCatS : R2 := fun x y H Q => ∃ i j, x = .str i ∧ y = .str j ∧ i.length + j.length ≤ sizeLine ∧ Q (.str (i ++ j)) H
def oIsN : R2 := fun x y H Q => y = .non ∧ Q (.bl (decide (x = .non))) H
def oNotN : R2 := fun x y H Q => y = .non ∧ Q (.bl (!decide (x = .non))) H
def cLen (K : PySem.W.Frag) : List V → Hp → VK → Prop := fun xs H Q => ∃ x n, xs = [x] ∧ LenV K x H n ∧ Q (.int n) H
def cLenS : List V → Hp → VK → Prop := fun xs H Q => ∃ z, xs = [.str z] ∧ z.length ≤ sizeLine ∧ Q (.int z.length) H
def cAbs : List V → Hp → VK → Prop := fun xs H Q => ∃ i, xs = [.int i] ∧ Q (.int (if i < 0 then -i else i)) H
def cMax2 : List V → Hp → VK → Prop := fun xs H Q => ∃ i j, xs = [.int i, .int j] ∧ Q (.int (if j > i then j else i)) H
def cMin2 : List V → Hp → VK → Prop := fun xs H Q => ∃ i j, xs = [.int i, .int j] ∧ Q (.int (if j < i then j else i)) H
def cInt : List V → Hp → VK → Prop := fun xs H Q => (∃ i, xs = [.int i] ∧ Q (.int i) H) ∨ ∃ k, xs = [.bl k] ∧ Q (.int (if k then 1 else 0)) H
def cStr : List V → Hp → VK → Prop := fun xs H Q => ∃ i, xs = [.int i] ∧ i.natAbs.log2 < 1920 ∧ Q (.str (toString i)) H
def cList (K : PySem.W.Frag) : List V → Hp → VK → Prop := fun xs H Q => ∃ p ys, xs = [.ref p] ∧ (SqL K H p ys ∨ SqT K H p ys) ∧ ∀ l, H l = none → Q (.ref l) (upd H l (.lst ys))
def cTuple (K : PySem.W.Frag) : List V → Hp → VK → Prop := fun xs H Q => ∃ p ys, xs = [.ref p] ∧ ((SqL K H p ys ∧ ∀ l, H l = none → Q (.ref l) (upd H l (.tup ys))) ∨ (SqT K H p ys ∧ Q (.ref p) H))
def oInsert : V → List V → Hp → VK → Prop := fun x vs H Q => ∃ (l : Addr) (xs : List V) (i : Int) (y : V), x = .ref l ∧ vs = [.int i, y] ∧ H l = some (.lst xs) ∧ xs.length < sizeLine ∧ 0 ≤ i ∧ i < 2 ^ 63 ∧ Q .non (upd H l (.lst (xs.take i.toNat ++ [y] ++ xs.drop i.toNat)))

/-- the type's name of a datum -/
def tyD : D → String
  | .none => "NoneType"
  | .bool _ => "bool"
  | .int _ => "int"
  | .str _ => "str"
  | .list _ => "list"
  | .tuple _ => "tuple"
  | .dict _ => "dict"
/-- no dict within: data that == tells apart -/
def shpD (d : D) : Bool := SeqAt.shaped d
mutual
theorem dp_of {K : PySem.W.Frag} {G H : Hp} (i : Same G H) : ∀ (d : D) (v : V), d.canLay0 = true → Rp G d v → Dp K H v d
  | .none, _, _, h => by cases h; exact .non
  | .bool b, _, _, h => by cases h; exact .bl b
  | .int n, _, _, h => by cases h; exact .int n
  | .str x, _, _, h => by cases h; exact .str x
  | .list ds, _, c, ⟨a, vs, h1, h2, h3⟩ => by subst h1; exact .lst (sqL_of i h2) (dpA_of i ds vs (by simpa [PyData.canLay0] using c) h3)
  | .tuple ds, _, c, ⟨a, vs, h1, h2, h3⟩ => by subst h1; exact .tup (sqT_of i h2) (dpA_of i ds vs (by simpa [PyData.canLay0] using c) h3)
  | .dict _, _, c, _ => nomatch c
theorem dpA_of {K : PySem.W.Frag} {G H : Hp} (i : Same G H) : ∀ (ds : List D) (vs : List V), PyData.canLayAll0 ds = true → RpA G ds vs → DpAll K H vs ds
  | [], _, _, h => by cases h; exact .nil
  | d :: ds, _, c, ⟨v, r, h1, h2, h3⟩ => by
    subst h1
    have c' : d.canLay0 = true ∧ PyData.canLayAll0 ds = true := by simpa [PyData.canLayAll0] using c
    exact .cons (dp_of i d v c'.1 h2) (dpA_of i ds r c'.2 h3)
end
theorem shp_lay {d : D} (h : SeqAt.shaped d = true) : d.canLay0 = true := SeqAt.canLay_of_shaped h
theorem ixN_of {α β : Type} {xs : List α} {ys : List β} (h : ys.length = xs.length) {i : Int} {x : α} (e : atI xs i = some x) : ∃ j : Nat, xs[j]? = some x ∧ ∀ y : β, ys[j]? = some y → atI ys i = some y := by
  unfold atI at e
  cases q : ixN xs.length i with
  | none => rw [q] at e; cases e
  | some j =>
    rw [q] at e
    refine ⟨j, e, fun y hy => ?_⟩
    unfold atI
    rw [h, q]
    exact hy
theorem RpA.atI {G : Hp} {ds : List D} {vs : List V} (r : RpA G ds vs) {i : Int} {d : D} (h : L2.atI ds i = some d) : ∃ v, L2.atI vs i = some v ∧ Rp G d v := by
  obtain ⟨j, h1, h2⟩ := ixN_of r.len h
  obtain ⟨v, q1, q2⟩ := r.get h1
  exact ⟨v, h2 v q1, q2⟩
theorem tyX_of {K : PySem.W.Frag} {G H : Hp} (i : Same G H) : ∀ {d : D} {v : V}, Rp G d v → TyX K H v (.type (tyD d))
  | .none, _, h => by cases h; exact .base .non
  | .bool b, _, h => by cases h; exact .base (.bl b)
  | .int n, _, h => by cases h; exact .base (.int n)
  | .str x, _, h => by cases h; exact .base (.str x)
  | .list _, _, ⟨a, vs, h1, h2, _⟩ => by subst h1; exact .base (.lst (i _ _ h2))
  | .tuple _, _, ⟨a, vs, h1, h2, _⟩ => by subst h1; exact .base (.tup (i _ _ h2))
  | .dict _, _, ⟨a, vs, h1, h2, _⟩ => by subst h1; exact .base (.dK (i _ _ h2))

section
variable {E : Ent} {δ δ' : List Sl} {ta tb te tc : TE} {tt tu : TT} {d d1 d2 : D}

/-! ### == of data -/
theorem ev_eqD (ha : Ev E ta δ d1) (hb : Ev E tb δ d2) (s1 : SeqAt.shaped d1 = true) (s2 : SeqAt.shaped d2 = true) : Ev E (tOp (rEqD E.K) ta tb) δ (.bool (PyData.eqv d1 d2)) :=
  ev_op ha hb (op_val (fun G H x y Q i _ a b q => ⟨d1, d2, dp_of i d1 x (shp_lay s1) a, dp_of i d2 y (shp_lay s2) b, s1, s2, q⟩) fun _ => rfl)
theorem ev_neD (ha : Ev E ta δ d1) (hb : Ev E tb δ d2) (s1 : SeqAt.shaped d1 = true) (s2 : SeqAt.shaped d2 = true) : Ev E (tOp (rNeD E.K) ta tb) δ (.bool (!PyData.eqv d1 d2)) :=
  ev_op ha hb (op_val (fun G H x y Q i _ a b q => ⟨d1, d2, dp_of i d1 x (shp_lay s1) a, dp_of i d2 y (shp_lay s2) b, s1, s2, q⟩) fun _ => rfl)
theorem dp_ints {K : PySem.W.Frag} {H : Hp} : ∀ ns : List Int, DpAll K H (ns.map V.int) (ns.map PyData.int)
  | [] => .nil
  | n :: ns => .cons (.int n) (dp_ints ns)
/-- script != [] -/
theorem ev_neSc {i : Nat} {ns : List Int} (h : δ[i]? = some (.s ns)) (hb : Ev E tb δ d2) (s1 : SeqAt.shaped (.list (ns.map .int)) = true) (s2 : SeqAt.shaped d2 = true) : Ev E (tOp (rNeD E.K) (tVar i) tb) δ (.bool (!PyData.eqv (.list (ns.map .int)) d2)) := fun σ G H Q s k => by
  obtain ⟨a, ho, q⟩ := s.atS h
  refine ⟨.ref a, ho, hb σ G H _ s fun y G2 H2 g r => ⟨_, d2, .lst (Same.seq (sameE s g) q) (dp_ints ns), dp_of g.i d2 y (shp_lay s2) r, s1, s2, k _ G2 H2 g rfl⟩⟩
theorem ev_eqB {i j : Bool} (ha : Ev E ta δ (.bool i)) (hb : Ev E tb δ (.bool j)) : Ev E (tOp rEq ta tb) δ (.bool (i == j)) :=
  ev_op ha hb (op_val (v := .bl (i == j)) (fun _ _ x y Q _ _ a b q => by
    have a : x = .bl i := a
    have b : y = .bl j := b
    subst a b
    exact ⟨rfl, by rw [dec_bl]; exact q⟩) fun _ => rfl)
theorem ev_neB {i j : Bool} (ha : Ev E ta δ (.bool i)) (hb : Ev E tb δ (.bool j)) : Ev E (tOp rNe ta tb) δ (.bool (!(i == j))) :=
  ev_op ha hb (op_val (v := .bl (!(i == j))) (fun _ _ x y Q _ _ a b q => by
    have a : x = .bl i := a
    have b : y = .bl j := b
    subst a b
    exact ⟨rfl, by rw [dec_bl]; exact q⟩) fun _ => rfl)
def isNoneD : D → Bool
  | .none => true
  | _ => false
theorem none_rp {G : Hp} {v : V} : ∀ {d : D}, Rp G d v → decide (v = .non) = isNoneD d
  | .none, h => by cases h; rfl
  | .bool _, h => by cases h; rfl
  | .int _, h => by cases h; rfl
  | .str _, h => by cases h; rfl
  | .list _, ⟨a, vs, h1, _⟩ => by subst h1; rfl
  | .tuple _, ⟨a, vs, h1, _⟩ => by subst h1; rfl
  | .dict _, ⟨a, vs, h1, _⟩ => by subst h1; rfl
theorem ev_isN (ha : Ev E ta δ d) : Ev E (tOp oIsN ta (tC .non)) δ (.bool (isNoneD d)) :=
  ev_op (d2 := .none) ha ev_non fun G H x y Q i _ a b k => ⟨b, by rw [none_rp a]; exact k _ G H (Gr.refl i) rfl⟩
theorem ev_notN (ha : Ev E ta δ d) : Ev E (tOp oNotN ta (tC .non)) δ (.bool (!isNoneD d)) :=
  ev_op (d2 := .none) ha ev_non fun G H x y Q i _ a b k => ⟨b, by rw [none_rp a]; exact k _ G H (Gr.refl i) rfl⟩

/-! ### items -/
theorem ev_ixL {xs : List D} {i : Int} (ha : Ev E ta δ (.list xs)) (hb : Ev E tb δ (.int i)) (h : atI xs i = some d) : Ev E (tOp (rIxL E.K) ta tb) δ d :=
  ev_op ha hb fun G H x y Q i' _ ⟨a, vs, e1, e2, r⟩ b k => by
    obtain ⟨v, q1, q2⟩ := r.atI h
    exact ⟨a, vs, i, v, e1, b, sqL_of i' e2, q1, k v G H (Gr.refl i') q2⟩
theorem ev_ixT {xs : List D} {i : Int} (ha : Ev E ta δ (.tuple xs)) (hb : Ev E tb δ (.int i)) (h : atI xs i = some d) : Ev E (tOp (rIxT E.K) ta tb) δ d :=
  ev_op ha hb fun G H x y Q i' _ ⟨a, vs, e1, e2, r⟩ b k => by
    obtain ⟨v, q1, q2⟩ := r.atI h
    exact ⟨a, vs, i, v, e1, b, sqT_of i' e2, q1, k v G H (Gr.refl i') q2⟩
/-- an item of an own list -/
theorem ev_ixO {n : Nat} {xs : List D} {i : Int} (h0 : δ[n]? = some (.ow xs)) (hb : Ev E tb δ (.int i)) (h : atI xs i = some d) : Ev E (tOp (rIxL E.K) (tVar n) tb) δ d := fun σ G H Q s k => by
  obtain ⟨p, vs, ho, h1, h2, h3, h4⟩ := s.atOw h0
  refine ⟨.ref p, ho, hb σ G H _ s fun y G2 H2 g r => ?_⟩
  obtain ⟨v, q1, q2⟩ := h2.atI h
  exact ⟨p, vs, i, v, rfl, r, SqL.of (g.h _ _ h1), q1, k v G2 H2 g (Rp.mono g.g _ _ q2)⟩
/-- an item of the script -/
theorem ev_ixS {n : Nat} {ns : List Int} {i z : Int} (h0 : δ[n]? = some (.s ns)) (hb : Ev E tb δ (.int i)) (h : atI ns i = some z) : Ev E (tOp (rIxL E.K) (tVar n) tb) δ (.int z) := fun σ G H Q s k => by
  obtain ⟨a, ho, q⟩ := s.atS h0
  refine ⟨.ref a, ho, hb σ G H _ s fun y G2 H2 g r => ?_⟩
  obtain ⟨j, e1, e2⟩ := ixN_of (xs := ns) (ys := ns.map V.int) (by simp) h
  have hv : atI (ns.map V.int) i = some (.int z) := e2 _ (by rw [List.getElem?_map, e1]; rfl)
  exact ⟨a, ns.map V.int, i, .int z, rfl, r, Same.seq (sameE s g) q, hv, k _ G2 H2 g rfl⟩
theorem atI_mod {α : Type} {xs : List α} {i : Int} (h : xs ≠ []) : ∃ x, atI xs (i % (xs.length : Int)) = some x ∧ xs[(i % (xs.length : Int)).toNat]? = some x := by
  have hp : 0 < xs.length := List.length_pos_iff.mpr h
  have h1 : 0 ≤ i % (xs.length : Int) := Int.emod_nonneg i (by omega)
  have h2 : i % (xs.length : Int) < (xs.length : Int) := Int.emod_lt_of_pos i (by omega)
  have e : (((i % (xs.length : Int)).toNat : Nat) : Int) = i % (xs.length : Int) := Int.toNat_of_nonneg h1
  have lt : (i % (xs.length : Int)).toNat < xs.length := by omega
  refine ⟨xs[(i % (xs.length : Int)).toNat], ?_, List.getElem?_eq_getElem lt⟩
  have := atI_nat (xs := xs) (List.getElem?_eq_getElem lt)
  rwa [e] at this

/-! ### lengths -/
theorem ev_lenL {xs : List D} (ha : Ev E ta δ (.list xs)) : Ev E (tCB (cLen E.K) (tCons ta tNil)) δ (.int (xs.length : Int)) :=
  ev_cb (ed_cons ha ed_nil) fun G H vs Q i _ ⟨v, r, e, ⟨a, us, e1, e2, e3⟩, e4⟩ k => by
    have e4 : r = [] := e4
    subst e e1 e4
    exact ⟨_, us.length, rfl, .inl ⟨us, sqL_of i e2, rfl⟩, by rw [e3.len]; exact k _ G H (Gr.refl i) rfl⟩
theorem ev_lenT {xs : List D} (ha : Ev E ta δ (.tuple xs)) : Ev E (tCB (cLen E.K) (tCons ta tNil)) δ (.int (xs.length : Int)) :=
  ev_cb (ed_cons ha ed_nil) fun G H vs Q i _ ⟨v, r, e, ⟨a, us, e1, e2, e3⟩, e4⟩ k => by
    have e4 : r = [] := e4
    subst e e1 e4
    exact ⟨_, us.length, rfl, .inr ⟨us, sqT_of i e2, rfl⟩, by rw [e3.len]; exact k _ G H (Gr.refl i) rfl⟩
theorem ev_lenO {n : Nat} {xs : List D} (h0 : δ[n]? = some (.ow xs)) : Ev E (tCB (cLen E.K) (tCons (tVar n) tNil)) δ (.int (xs.length : Int)) :=
  Ev.lend h0 (ev_lenL (ev_var (by
    have := (List.getElem?_eq_some_iff.mp h0).1
    simp [this]))) rfl
theorem ev_lenSc {n : Nat} {ns : List Int} (h0 : δ[n]? = some (.s ns)) : Ev E (tCB (cLen E.K) (tCons (tVar n) tNil)) δ (.int (ns.length : Int)) := fun σ G H Q s k => by
  obtain ⟨a, ho, q⟩ := s.atS h0
  exact ⟨.ref a, ho, .ref a, (ns.map V.int).length, rfl, .inl ⟨_, Same.seq s.h q, rfl⟩, by rw [List.length_map]; exact k _ G H (Gr.refl s.i) rfl⟩
theorem ev_lenS {z : Str} (ha : Ev E ta δ (.str z)) (hz : z.length ≤ 1000000) : Ev E (tCB cLenS (tCons ta tNil)) δ (.int (z.length : Int)) :=
  ev_cb (ed_cons ha ed_nil) fun G H vs Q i _ ⟨v, r, e, e1, e2⟩ k => by
    have e1 : v = .str z := e1
    have e2 : r = [] := e2
    subst e e1 e2
    exact ⟨z, rfl, Nat.le_trans hz (by decide), k _ G H (Gr.refl i) rfl⟩

/-! ### numbers -/
theorem ca_two {c : List V → Hp → VK → Prop} {i j z : Int} (h : ∀ H (Q : VK), Q (.int z) H → c [.int i, .int j] H Q) : CaD E c [.int i, .int j] (.int z) := fun G H vs Q i' _ ⟨v, r, e, e1, w, r', e2, e3, e4⟩ k => by
  have e1 : v = .int i := e1
  have e3 : w = .int j := e3
  have e4 : r' = [] := e4
  subst e e1 e2 e3 e4
  exact h H Q (k _ G H (Gr.refl i') rfl)
theorem ca_one {c : List V → Hp → VK → Prop} {d z : D} (hd : scalD z = true) {w : V} (hz : ∀ G, Rp G z w) (h : ∀ G H v (Q : VK), Same G H → Rp G d v → Q w H → c [v] H Q) : CaD E c [d] z := fun G H vs Q i' _ ⟨v, r, e, e1, e4⟩ k => by
  have e4 : r = [] := e4
  subst e e4
  exact h G H v Q i' e1 (k _ G H (Gr.refl i') (hz G))
theorem ev_max2 {i j : Int} (ha : Ev E ta δ (.int i)) (hb : Ev E tb δ (.int j)) : Ev E (tCB cMax2 (tCons ta (tCons tb tNil))) δ (.int (max i j)) :=
  ev_cb (ed_cons ha (ed_cons hb ed_nil)) (ca_two fun H Q q => ⟨i, j, rfl, by
    have e : (if j > i then j else i) = max i j := by split <;> omega
    rw [e]; exact q⟩)
theorem ev_min2 {i j : Int} (ha : Ev E ta δ (.int i)) (hb : Ev E tb δ (.int j)) : Ev E (tCB cMin2 (tCons ta (tCons tb tNil))) δ (.int (min i j)) :=
  ev_cb (ed_cons ha (ed_cons hb ed_nil)) (ca_two fun H Q q => ⟨i, j, rfl, by
    have e : (if j < i then j else i) = min i j := by split <;> omega
    rw [e]; exact q⟩)
theorem ev_abs {i : Int} (ha : Ev E ta δ (.int i)) : Ev E (tCB cAbs (tCons ta tNil)) δ (.int (if i < 0 then -i else i)) :=
  ev_cb (ed_cons ha ed_nil) (ca_one (z := .int (if i < 0 then -i else i)) rfl (fun _ => rfl) fun G H v Q _ e q => by
    have e : v = .int i := e
    subst e
    exact ⟨i, rfl, q⟩)
theorem ev_intB {b : Bool} (ha : Ev E ta δ (.bool b)) : Ev E (tCB cInt (tCons ta tNil)) δ (.int (if b then 1 else 0)) :=
  ev_cb (ed_cons ha ed_nil) (ca_one (z := .int (if b then 1 else 0)) rfl (fun _ => rfl) fun G H v Q _ e q => by
    have e : v = .bl b := e
    subst e
    exact .inr ⟨b, rfl, q⟩)
theorem ev_neg {i : Int} (ha : Ev E ta δ (.int i)) : Ev E (tUn (rU fun i => .int (-i)) ta) δ (.int (-i)) := fun σ G H Q s k => ha σ G H _ s fun v G2 H2 g r => ⟨i, r, k _ G2 H2 g rfl⟩

/-! ### isinstance -/
theorem ev_isi {n : String} {b : Bool} (ha : Ev E ta δ d) (h : kitB (tyD d) n = some b) : Ev E (tCB (rIsi E.K) (tCons ta (tCons (tC (.ty n)) tNil))) δ (.bool b) := fun σ G H Q s k => ha σ G H _ s fun v G2 H2 g r =>
  ⟨v, .ty n, _, _, b, rfl, .ty n, tyX_of g.i r, kit_ty h, k _ G2 H2 g rfl⟩
theorem ev_isi2 {n m : String} {b c : Bool} (ha : Ev E ta δ d) (h : kitB (tyD d) n = some b) (h2 : kitB (tyD d) m = some c) : Ev E (tCB (rIsiT E.K) (tCons ta (tCons (tTup (tCons (tC (.ty n)) (tCons (tC (.ty m)) tNil))) tNil))) δ (.bool (b || c)) := fun σ G H Q s k => ha σ G H _ s fun v G2 H2 g r => by
  refine ⟨by show 2 ≤ sizeLine; decide, fun p hp => ?_⟩
  have g2 := Gr.new (o := .tup [.ty n, .ty m]) g.i hp
  refine ⟨v, p, _, _, _, b || c, rfl, upd_same, .cons (.ty n) (.cons (.ty m) .nil), tyX_of g2.i (Rp.mono g2.g _ _ r), ?_, k _ _ _ (g.trans g2) rfl⟩
  refine kitAny_cons (kit_ty h) (fun e => kitAny_cons (kit_ty h2) (fun e2 => ?_) fun e2 => ?_) fun e => ?_
  · subst e e2; rfl
  · subst e e2; rfl
  · subst e; rfl

/-! ### new lists -/
theorem evF_listRg {n : Int} (ha : Ev E ta δ (.int n)) (h : 0 ≤ n ∧ n ≤ 1000000) : EvF E (tLstRg (tRg1 ta)) δ (intsD 0 n.toNat) := fun σ G H Q s k => ha σ G H _ s fun v G2 H2 g r => by
  refine ⟨n, r, RgOk.of_le (by omega) (by omega) (by omega) (by omega), fun q hq => ?_⟩
  refine k q _ G2 _ (g.trans (Gr.side g.i (same_new hq))) (g.h.free hq) (g.i.free hq) upd_same ?_
  have e : rgV 0 n = ((List.range n.toNat).map fun (i : Nat) => (0 + (i : Int))).map V.int := by
    unfold rgV
    rw [List.map_map, Int.sub_zero]
    rfl
  have e2 : intsD 0 n.toNat = ((List.range n.toNat).map fun (i : Nat) => (0 + (i : Int))).map PyData.int := by
    unfold intsD
    rw [List.map_map]
    rfl
  rw [e, e2]
  exact RpA.ints _
theorem evF_listT {xs : List D} (ha : Ev E ta δ (.tuple xs)) : EvF E (tCB (cList E.K) (tCons ta tNil)) δ xs :=
  evF_cb (ed_cons ha ed_nil) fun G H vs Q i _ ⟨v, r, e, ⟨a, us, e1, e2, e3⟩, e4⟩ k => by
    have e4 : r = [] := e4
    subst e e1 e4
    exact ⟨a, us, rfl, .inr (sqT_of i e2), fun l hl => k l us G _ (Gr.side i (same_new hl)) hl (i.free hl) upd_same e3⟩
theorem evF_listL {xs : List D} (ha : Ev E ta δ (.list xs)) : EvF E (tCB (cList E.K) (tCons ta tNil)) δ xs :=
  evF_cb (ed_cons ha ed_nil) fun G H vs Q i _ ⟨v, r, e, ⟨a, us, e1, e2, e3⟩, e4⟩ k => by
    have e4 : r = [] := e4
    subst e e1 e4
    exact ⟨a, us, rfl, .inl (sqL_of i e2), fun l hl => k l us G _ (Gr.side i (same_new hl)) hl (i.free hl) upd_same e3⟩
theorem evF_cat {xs ys : List D} (ha : Ev E ta δ (.list xs)) (hb : Ev E tb δ (.list ys)) (hz : xs.length + ys.length ≤ 100000) : EvF E (tOp rCat ta tb) δ (xs ++ ys) := fun σ G H Q s k =>
  ha σ G H _ s fun x G1 H1 g1 ⟨a, vs, e1, e2, e3⟩ => hb σ G1 H1 _ (s.grow g1) fun y G2 H2 g2 ⟨b, us, f1, f2, f3⟩ => by
    subst e1 f1
    refine ⟨a, b, vs, us, rfl, rfl, g2.i _ _ (g2.g _ _ e2), g2.i _ _ f2, by rw [e3.len, f3.len]; exact Nat.le_trans hz (by decide), fun p hp => ?_⟩
    have g := g1.trans g2
    exact k p _ G2 _ (g.trans (Gr.side g.i (same_new hp))) (g.h.free hp) (g.i.free hp) upd_same ((RpA.mono g2.g _ _ e3).append f3)
theorem evF_revL {xs : List D} (ha : Ev E ta δ (.list xs)) : EvF E (tRevL E.K ta) δ xs.reverse := fun σ G H Q s k => ha σ G H _ s fun x G1 H1 g ⟨a, vs, e1, e2, e3⟩ => by
  subst e1
  exact ⟨a, vs, rfl, sqL_of g.i e2, fun p hp => k p _ G1 _ (g.trans (Gr.side g.i (same_new hp))) (g.h.free hp) (g.i.free hp) upd_same e3.reverse⟩
/-- the ints in order: THE rising list of the same ints -/
theorem evF_sorted {ns : List Int} {ms : List Int} (ha : Ev E ta δ (.list (ns.map .int))) (h : ∀ ms' : List Int, ms'.Perm ns → ms'.Pairwise (· ≤ ·) → ms' = ms) : EvF E (tCB (rSortedI E.K) (tCons ta tNil)) δ (ms.map .int) :=
  evF_cb (ed_cons ha ed_nil) fun G H vs Q i _ ⟨v, r, e, ⟨a, us, e1, e2, e3⟩, e4⟩ k => by
    have e4 : r = [] := e4
    subst e e1 e4
    have e5 := RpA.of_ints e3
    subst e5
    refine ⟨a, ns, rfl, sqL_of i e2, fun ms' p hp1 hp2 hp => ?_⟩
    have := h ms' hp1 hp2
    subst this
    exact k p _ G _ (Gr.side i (same_new hp)) hp (i.free hp) upd_same (RpA.ints _)
theorem evF_sortSet {w : World} {ns ms : List Int} (ha : Ev E ta δ (.list (ns.map .int))) (hz : ns.length ≤ 1000) (h : ∀ ms' : List Int, ms'.Pairwise (· < ·) → (∀ k, k ∈ ms' ↔ k ∈ ns) → ms' = ms) :
    EvF E (tCB (rSrtS w) (tCons (tCB (rSetOf E.K w) (tCons ta tNil)) tNil)) δ (ms.map .int) := fun σ G H Q s k => ha σ G H _ s fun x G1 H1 g ⟨a, vs, e1, e2, e3⟩ => by
  subst e1
  have e5 := RpA.of_ints e3
  subst e5
  refine ⟨a, ns, rfl, sqL_of g.i e2, hz, fun p c hp => ⟨p, _, c, rfl, upd_same, fun ms' q h1 h2 hq => ?_⟩⟩
  have := h ms' h1 fun k => (h2 k).trans decide_eq_true_iff
  subst this
  have hq1 : H1 q = none := (same_new hp).free hq
  exact k q _ G1 _ (g.trans (Gr.side g.i ((same_new hp).trans (same_new hq)))) (g.h.free hq1) (g.i.free hq1) upd_same (RpA.ints _)
theorem ev_sum {ns : List Int} (ha : Ev E ta δ (.list (ns.map .int))) : Ev E (tCB (rSum E.K) (tCons ta tNil)) δ (.int ns.sum) :=
  ev_cb (ed_cons ha ed_nil) fun G H vs Q i _ ⟨v, r, e, ⟨a, us, e1, e2, e3⟩, e4⟩ k => by
    have e4 : r = [] := e4
    subst e e1 e4
    have e5 := RpA.of_ints e3
    subst e5
    exact ⟨a, ns, rfl, sqL_of i e2, k _ G H (Gr.refl i) rfl⟩
theorem ev_all {bs : List Bool} (ha : Ev E ta δ (.list (bs.map .bool))) : Ev E (tCB (rAll E.K) (tCons ta tNil)) δ (.bool (bs.all id)) :=
  ev_cb (ed_cons ha ed_nil) fun G H vs Q i _ ⟨v, r, e, ⟨a, us, e1, e2, e3⟩, e4⟩ k => by
    have e4 : r = [] := e4
    subst e e1 e4
    have e5 := RpA.of_bools e3
    subst e5
    exact ⟨a, bs, rfl, sqL_of i e2, k _ G H (Gr.refl i) rfl⟩
/-- in, not in: flat data -/
def flatD : D → Bool
  | .none => true
  | .bool _ => true
  | .int _ => true
  | .str _ => true
  | _ => false
theorem inV_ints (x : Int) : ∀ ns : List Int, inV (.int x) (ns.map V.int) = decide (x ∈ ns)
  | [] => rfl
  | n :: ns => by
    have ih := inV_ints x ns
    unfold inV at ih ⊢
    rw [List.map_cons, List.any_cons, ih]
    have e : eqV (.int n) (.int x) = decide (n = x) := by
      unfold eqV
      first | rfl | exact (decide_eq_decide.mpr Iff.rfl) | simp
    rw [e]
    by_cases h : x = n
    · subst h; simp
    · simp [h, Ne.symm h]
theorem flat_ints (ns : List Int) : (ns.map V.int).all flatV = true := by
  rw [List.all_map]
  exact List.all_eq_true.mpr fun _ _ => rfl
theorem ev_inL {x : Int} {ns : List Int} (ha : Ev E ta δ (.int x)) (hb : Ev E tb δ (.list (ns.map .int))) : Ev E (tOp (rIn E.K false) ta tb) δ (.bool (decide (x ∈ ns))) :=
  ev_op ha hb fun G H a b Q i _ e ⟨p, us, e1, e2, e3⟩ k => by
    have e : a = .int x := e
    have e5 := RpA.of_ints e3
    subst e e1 e5
    exact ⟨p, _, rfl, .inl (sqL_of i e2), rfl, flat_ints ns, by rw [inV_ints]; exact k _ G H (Gr.refl i) rfl⟩
theorem ev_notInL {x : Int} {ns : List Int} (ha : Ev E ta δ (.int x)) (hb : Ev E tb δ (.list (ns.map .int))) : Ev E (tOp (rIn E.K true) ta tb) δ (.bool (!decide (x ∈ ns))) :=
  ev_op ha hb fun G H a b Q i _ e ⟨p, us, e1, e2, e3⟩ k => by
    have e : a = .int x := e
    have e5 := RpA.of_ints e3
    subst e e1 e5
    exact ⟨p, _, rfl, .inl (sqL_of i e2), rfl, flat_ints ns, by rw [inV_ints]; exact k _ G H (Gr.refl i) rfl⟩
theorem ev_inT {x : Int} {ns : List Int} (ha : Ev E ta δ (.int x)) (hb : Ev E tb δ (.tuple (ns.map .int))) : Ev E (tOp (rIn E.K false) ta tb) δ (.bool (decide (x ∈ ns))) :=
  ev_op ha hb fun G H a b Q i _ e ⟨p, us, e1, e2, e3⟩ k => by
    have e : a = .int x := e
    have e5 := RpA.of_ints e3
    subst e e1 e5
    exact ⟨p, _, rfl, .inr (sqT_of i e2), rfl, flat_ints ns, by rw [inV_ints]; exact k _ G H (Gr.refl i) rfl⟩
theorem ev_count {x : Int} {ns : List Int} (hb : Ev E tb δ (.list (ns.map .int))) (ha : Ev E ta δ (.int x)) : Ev E (tBM E.K "list" (rCntI E.K) tb (tCons ta tNil)) δ (.int (ns.count x : Nat)) := fun σ G H Q s k =>
  hb σ G H _ s fun b G1 H1 g1 ⟨p, us, e1, e2, e3⟩ => by
    have e5 := RpA.of_ints e3
    subst e1 e5
    refine ⟨.inl ⟨rfl, _, sqL_of g1.i e2⟩, ha σ G1 H1 _ (s.grow g1) fun a G2 H2 g2 e => ?_⟩
    have e : a = .int x := e
    subst e
    exact ⟨p, ns, x, rfl, rfl, sqL_of g2.i (g2.g _ _ e2), k _ G2 H2 (g1.trans g2) rfl⟩

/-! ### own lists changed -/
theorem evM_append {n : Nat} {xs : List D} (h0 : δ[n]? = some (.ow xs)) (ha : Ev E ta δ d) (hz : xs.length < 100000) : EvM E (tBM E.K "list" rAppend (tVar n) (tCons ta tNil)) δ (δ.set n (.ow (xs ++ [d]))) .none := fun σ G H Q s k => by
  obtain ⟨p, vs, ho, h1, h2, h3, h4⟩ := s.atOw h0
  refine ⟨.ref p, ho, .inl ⟨rfl, _, SqL.of h1⟩, ha σ G H _ s fun v G2 H2 g r => ?_⟩
  have s2 := s.grow g
  refine ⟨p, vs, v, rfl, rfl, g.h _ _ h1, by rw [h2.len]; exact Nat.lt_of_lt_of_le hz (by decide), k _ G2 _ g.g (s2.mutate h0 ho ((RpA.mono g.g _ _ h2).snoc r)) rfl⟩
theorem evM_pop {n : Nat} {xs : List D} (h0 : δ[n]? = some (.ow (xs ++ [d]))) : EvM E (tBM0 E.K "list" rPop (tVar n)) δ (δ.set n (.ow xs)) d := fun σ G H Q s k => by
  obtain ⟨p, vs, ho, h1, h2, h3, h4⟩ := s.atOw h0
  obtain ⟨v, hv, rv⟩ := h2.get (i := xs.length) (d := d) (by simp)
  have hl : vs.length = xs.length + 1 := by rw [h2.len]; simp
  have hd : vs.dropLast = vs.take xs.length := by rw [List.dropLast_eq_take, hl]; rfl
  have rr : RpA G xs vs.dropLast := by
    rw [hd]
    have := h2.take xs.length
    rwa [List.take_left'] at this
    rfl
  exact ⟨.ref p, ho, .inl ⟨rfl, _, SqL.of h1⟩, p, vs, v, rfl, rfl, h1, by rw [hl]; exact hv, k v G _ (Same.refl G) (s.mutate h0 ho rr) rv⟩
theorem seqIx_nat {j n : Nat} (h : j < n) : seqIndex? (j : Int) n = some j := by
  have := (ixN_seq (n := n) (i := (j : Int)) (j := j) (by unfold ixN; rw [if_pos (by omega), if_pos (by omega)]; simp)).1
  exact this
theorem evM_popAt {n j : Nat} {xs : List D} {i : Int} (h0 : δ[n]? = some (.ow xs)) (hi : Ev E ta δ (.int i)) (hj : i = (j : Int)) (hz : j < 100000) (hx : xs[j]? = some d) : EvM E (tBM E.K "list" rPopAt (tVar n) (tCons ta tNil)) δ (δ.set n (.ow (xs.eraseIdx j))) d := fun σ G H Q s k => by
  obtain ⟨p, vs, ho, h1, h2, h3, h4⟩ := s.atOw h0
  subst hj
  refine ⟨.ref p, ho, .inl ⟨rfl, _, SqL.of h1⟩, hi σ G H _ s fun v G2 H2 g r => ?_⟩
  have s2 := s.grow g
  obtain ⟨u, hu, ru⟩ := h2.get hx
  have lt : j < vs.length := (List.getElem?_eq_some_iff.mp hu).1
  have r : v = .int (j : Int) := r
  subst r
  exact ⟨p, vs, (j : Int), j, u, rfl, rfl, g.h _ _ h1, by omega, by omega, seqIx_nat lt, hu, k u G2 _ g.g (s2.mutate h0 ho ((RpA.mono g.g _ _ h2).eraseIdx j)) (Rp.mono g.g _ _ ru)⟩
theorem xs_setO {n j : Nat} {xs : List D} {i : Int} {Φ : Out → Prop} (h0 : δ[n]? = some (.ow xs)) (ha : Ev E ta δ d) (hi : Ev E tb δ (.int i)) (hj : i = (j : Int)) (hx : j < xs.length) (k : Φ (.nx (δ.set n (.ow (xs.set j d))))) : Xs E (tAsg ta (gSub (tVar n) tb rSetL)) δ Φ := fun σ G H X s p => by
  obtain ⟨q, vs, ho, h1, h2, h3, h4⟩ := s.atOw h0
  subst hj
  refine ha σ G H _ s fun v G1 H1 g1 r1 => ⟨.ref q, ho, hi σ G1 H1 _ (s.grow g1) fun w G2 H2 g2 r2 => ?_⟩
  have g := g1.trans g2
  have r2 : w = .int (j : Int) := r2
  subst r2
  have hl : j < vs.length := by rw [h2.len]; exact hx
  refine ⟨q, vs, (j : Int), j, rfl, rfl, g.h _ _ h1, by unfold ixN; rw [if_pos (by omega), if_pos (by omega)]; simp, ?_⟩
  exact p _ k σ G2 _ g.g ((s.grow g).mutate h0 ho ((RpA.mono g.g _ _ h2).set (Rp.mono g2.g _ _ r1) j))
end
end PL

/-! PDict: dicts of a def's own, and dicts among the data. -/
namespace PL
open PySem L2

def valD (kvs : List (Key × D)) (k : Key) : Option D := (kvs.find? fun kv => decide (kv.1 = k)).map (·.2)
def putD (kvs : List (Key × D)) (k : Key) (v : D) : List (Key × D) := if (kvs.any fun kv => decide (kv.1 = k)) = true then kvs.map (fun kv => if kv.1 = k then (kv.1, v) else kv) else kvs ++ [(k, v)]
theorem RpK.len {G : Hp} : ∀ {kvs : List (Key × D)} {ks : List (Key × V)}, RpK G kvs ks → ks.length = kvs.length
  | [], _, h => by cases h; rfl
  | (_, _) :: _, _, ⟨_, _, h1, _, h3⟩ => by subst h1; simp [RpK.len h3]
theorem RpK.val {G : Hp} (k : Key) : ∀ {kvs : List (Key × D)} {ks : List (Key × V)}, RpK G kvs ks → (∃ d v, valD kvs k = some d ∧ valV ks k = some v ∧ Rp G d v) ∨ (valD kvs k = none ∧ valV ks k = none)
  | [], _, h => by cases h; exact .inr ⟨rfl, rfl⟩
  | (j, d) :: ps, _, ⟨v, r, h1, h2, h3⟩ => by
    subst h1
    by_cases e : j = k
    · subst e
      exact .inl ⟨d, v, by simp [valD], by simp [valV], h2⟩
    · rcases RpK.val k h3 with ⟨d', v', q1, q2, q3⟩ | ⟨q1, q2⟩
      · exact .inl ⟨d', v', by simpa [valD, List.find?_cons, e] using q1, by rw [valV_neg (p := (j, v)) e]; exact q2, q3⟩
      · exact .inr ⟨by simpa [valD, List.find?_cons, e] using q1, by rw [valV_neg (p := (j, v)) e]; exact q2⟩
theorem RpK.any {G : Hp} (k : Key) : ∀ {kvs : List (Key × D)} {ks : List (Key × V)}, RpK G kvs ks → (ks.any fun kv => decide (kv.1 = k)) = (kvs.any fun kv => decide (kv.1 = k))
  | [], _, h => by cases h; rfl
  | (j, d) :: ps, _, ⟨v, r, h1, h2, h3⟩ => by subst h1; simp only [List.any_cons, RpK.any k h3]
theorem RpK.mapped {G : Hp} (k : Key) {d : D} {v : V} (hd : Rp G d v) : ∀ {kvs : List (Key × D)} {ks : List (Key × V)}, RpK G kvs ks → RpK G (kvs.map fun kv => if kv.1 = k then (kv.1, d) else kv) (ks.map fun kv => if kv.1 = k then (kv.1, v) else kv)
  | [], _, h => by cases h; simp [RpK]
  | (j, d') :: ps, _, ⟨v', r, h1, h2, h3⟩ => by
    subst h1
    by_cases e : j = k
    · simp only [List.map_cons, e, if_true]
      exact ⟨v, _, rfl, hd, RpK.mapped k hd h3⟩
    · simp only [List.map_cons, e, if_false]
      exact ⟨v', _, rfl, h2, RpK.mapped k hd h3⟩
theorem RpK.snoc {G : Hp} {k : Key} {d : D} {v : V} (hd : Rp G d v) : ∀ {kvs : List (Key × D)} {ks : List (Key × V)}, RpK G kvs ks → RpK G (kvs ++ [(k, d)]) (ks ++ [(k, v)])
  | [], _, h => by cases h; exact ⟨v, [], rfl, hd, rfl⟩
  | (j, d') :: ps, _, ⟨v', r, h1, h2, h3⟩ => by subst h1; exact ⟨v', _, rfl, h2, RpK.snoc hd h3⟩
theorem RpK.put {G : Hp} {kvs : List (Key × D)} {ks : List (Key × V)} (r : RpK G kvs ks) (k : Key) {d : D} {v : V} (hd : Rp G d v) : RpK G (putD kvs k d) (putK ks k v) := by
  unfold putD putK
  rw [r.any k]
  split
  · exact r.mapped k hd
  · exact r.snoc hd
theorem RpK.get {G : Hp} : ∀ {kvs : List (Key × D)} {ks : List (Key × V)} {i : Nat} {k : Key} {v : V}, RpK G kvs ks → ks[i]? = some (k, v) → ∃ d, kvs[i]? = some (k, d) ∧ Rp G d v
  | [], _, _, _, _, h, e => by cases h; simp at e
  | (j, d) :: ps, _, 0, k, v, ⟨v', r, h1, h2, h3⟩, e => by subst h1; simp at e; obtain ⟨e1, e2⟩ := e; subst e1 e2; exact ⟨d, rfl, h2⟩
  | (j, d) :: ps, _, i + 1, k, v, ⟨v', r, h1, h2, h3⟩, e => by subst h1; exact RpK.get (i := i) h3 (by simpa using e)
/-- a key that bears a datum -/
def keyOfD : D → Option Key
  | .int i => some (.inl i)
  | .str x => some (.inr x)
  | _ => none
theorem keyOfD_rp {G : Hp} {v : V} {k : Key} : ∀ {d : D}, keyOfD d = some k → Rp G d v → v = kV k
  | .int i, e, h => by cases e; exact h
  | .str x, e, h => by cases e; exact h
  | .none, e, _ => nomatch e
  | .bool _, e, _ => nomatch e
  | .list _, e, _ => nomatch e
  | .tuple _, e, _ => nomatch e
  | .dict _, e, _ => nomatch e
/-- a dict among the data -/
def dictD (kvs : List (Key × D)) : D := .dict (kvs.map fun kv => (kD kv.1, kv.2))
theorem kD_inj : ∀ {a b : Key}, kD a = kD b → a = b
  | .inl _, .inl _, h => by cases h; rfl
  | .inr _, .inr _, h => by cases h; rfl
  | .inl _, .inr _, h => nomatch h
  | .inr _, .inl _, h => nomatch h
theorem rpD_of {G : Hp} : ∀ {kvs : List (Key × D)} {ks : List (Key × V)}, RpK G kvs ks → RpD G (kvs.map fun kv => (kD kv.1, kv.2)) ks
  | [], _, h => h
  | (_, _) :: _, _, ⟨v, r, h1, h2, h3⟩ => ⟨_, v, r, h1, rfl, h2, rpD_of h3⟩
theorem of_rpD {G : Hp} : ∀ {kvs : List (Key × D)} {ks : List (Key × V)}, RpD G (kvs.map fun kv => (kD kv.1, kv.2)) ks → RpK G kvs ks
  | [], _, h => h
  | (_, _) :: _, _, ⟨k, v, r, h1, h2, h3, h4⟩ => by
    have e := kD_inj h2
    subst e
    exact ⟨v, r, h1, h3, of_rpD h4⟩
theorem rp_dict {G : Hp} {kvs : List (Key × D)} {v : V} (h : Rp G (dictD kvs) v) : ∃ a ks, v = .ref a ∧ G a = some (.dK ks) ∧ RpK G kvs ks := by
  obtain ⟨a, ks, h1, h2, h3⟩ := h
  exact ⟨a, ks, h1, h2, of_rpD h3⟩

/-- a new dict -/
def EvK (E : Ent) (te : TE) (δ : List Sl) (kvs : List (Key × D)) : Prop := ∀ σ G H (Q : VK), St E δ σ G H → (∀ p ks G2 H2, Gr G H G2 H2 → H p = none → G2 p = none → H2 p = some (.dK ks) → RpK G2 kvs ks → Q (.ref p) H2) → te σ H Q
def spK (K : PySem.W.Frag) (R : List Sl → List (Key × D) → Prop) : Sp := fun vs H Q _ => ∃ G as ds, Same G H ∧ ArgsR K G H as vs ∧ R as ds ∧ ∀ p us G2 H2, Gr G H G2 H2 → H p = none → G2 p = none → H2 p = some (.dK us) → RpK G2 ds us → Q (.ref p) H2
section
variable {E : Ent} {δ δ' : List Sl} {ta tb te tc : TE} {tt tu : TT} {d d1 d2 : D} {Φ : Out → Prop} {u : TS}
theorem evK_call {R : List Sl → List (Key × D) → Prop} {t : TA} {as : List Sl} {ds : List (Key × D)} {XE : XK} (h : Ea E t δ as) (hR : R as ds) : EvK E (tCall (spK E.K R) [] XE t) δ ds := fun σ G H Q s k =>
  h σ G H _ s fun us G1 H1 g1 r1 => by
    rw [List.append_nil]
    exact ⟨G1, as, ds, g1.i, r1, hR, fun p vs G2 H2 g2 hp gp h2 r2 => k p vs G2 H2 (g1.trans g2) (g1.h.free hp) gp h2 r2⟩
theorem spK_run {K : PySem.W.Frag} {R : List Sl → List (Key × D) → Prop} {t : TS} {N : List Str} {vs : List V} {H : Hp} {Q : VK} {XE : XK} (hsp : spK K R vs H Q XE) (hn : vs.length ≤ N.length)
    (h : ∀ as d, R as d → ∀ E : Ent, E.K = K → Xs E t (argSl as (N.length - as.length)) fun o => o = .rk d) : t { nx := fun _ H' => Q .non H', rt := Q } (start N vs) H := by
  obtain ⟨G, as, d, i, r, hR, k⟩ := hsp
  refine h as d hR ⟨K, G, H⟩ rfl (start N vs) G H _ (st_start i r hn) fun o e => ?_
  subst e
  exact fun p us G' H' g hp gp h2 r => k p us G' H' g hp gp h2 r
theorem spK_len {K : PySem.W.Frag} {R : List Sl → List (Key × D) → Prop} {n : Nat} {vs : List V} {H : Hp} {Q : VK} {XE : XK} (hsp : spK K R vs H Q XE) (h : ∀ as d, R as d → as.length = n) : vs.length = n := by
  obtain ⟨G, as, d, i, r, hR, k⟩ := hsp
  rw [r.len, h as d hR]
theorem evK_new : EvK E tDNewK δ [] := fun σ G H Q s k p hp => k p [] G _ (Gr.side s.i (same_new hp)) hp (s.i.free hp) upd_same rfl
theorem xs_asgK {i : Nat} {ds : List (Key × D)} (h : EvK E te δ ds) (k : Φ (.nx (δ.set i (.od ds)))) : Xs E (tAsg te (gName i)) δ Φ := fun σ G H X s p => h σ G H _ s fun q vs G1 H1 g hp gp h2 r => p _ k _ G1 H1 g.g (s.setOd g i hp gp h2 r)
theorem q_asgK {i : Nat} {ds : List (Key × D)} (h : EvK E te δ ds) (k : Xs E u (δ.set i (.od ds)) Φ) : Xs E (tSeq (tAsg te (gName i)) u) δ Φ := xs_seq (xs_asgK h k)
/-- {a: x, b: y} -/
theorem evK_disp2 {tx ty : TE} {k1 k2 : Key} {dx dy : D} (ha : Ev E ta δ (kD k1)) (hx : Ev E tx δ dx) (hb : Ev E tb δ (kD k2)) (hy : Ev E ty δ dy) : EvK E (tDisp [(ta, tx), (tb, ty)]) δ (putD (putD [] k1 dx) k2 dy) := fun σ G H Q s k p hp => by
  have gp : G p = none := s.i.free hp
  have s0 : St E δ σ G (upd H p (.dK [])) := s.grow (Gr.side s.i (same_new hp))
  refine ha σ G _ _ s0 fun v1 G1 H1 g1 r1 => hx σ G1 H1 _ (s0.grow g1) fun w1 G2 H2 g2 q1 => ?_
  have g12 := g1.trans g2
  refine hb σ G2 H2 _ (s0.grow g12) fun v2 G3 H3 g3 r2 => ?_
  have g13 := g12.trans g3
  refine hy σ G3 H3 _ (s0.grow g13) fun w2 G4 H4 g4 q2 => ?_
  have g14 := g13.trans g4
  have h4 : H4 p = some (.dK []) := g14.h p _ upd_same
  have gp4 : G4 p = none := g14.n p (by rw [upd_same]; simp) gp
  have ek : ∀ (k : Key) (G : Hp) (v : V), Rp G (kD k) v → v = kV k := fun k G v h => by cases k <;> exact h
  have e1 := ek k1 _ _ r1
  have e2 := ek k2 _ _ r2
  subst e1 e2
  refine ⟨h4, [(k1, w1), (k2, w2)], rfl, by show 2 ≤ 15; decide, ?_⟩
  have rr : RpK G4 (putD (putD [] k1 dx) k2 dy) (mergeK [] [(k1, w1), (k2, w2)]) := (RpK.put (RpK.put (kvs := []) (ks := []) rfl k1 (Rp.mono ((g2.trans (g3.trans g4)).g |> fun z => (g3.g.trans g4.g)) _ _ q1)) k2 q2)
  refine k p _ G4 _ ⟨g14.g, fun a o h => ?_, fun a ha ga => ?_, same_mut g14.i gp4⟩ hp gp4 upd_same rr
  · have ne : a ≠ p := ne_of_none h hp
    rw [upd_ne ne]
    exact g14.h a o (by rw [upd_ne ne]; exact h)
  · refine g14.n a (fun z => ?_) ga
    have ne : a ≠ p := fun e => ha (by rw [e]; exact hp)
    rw [upd_ne ne] at z; exact ha z
/-- d.get(k, x) of an own dict -/
theorem ev_dget2 {n : Nat} {kvs : List (Key × D)} {k : Key} {dx : D} (h0 : δ[n]? = some (.od kvs)) (ha : Ev E ta δ (kD k)) (hx : Ev E tb δ dx) : Ev E (tDGet2 (tVar n) ta tb) δ ((valD kvs k).getD dx) := fun σ G H Q s c => by
  obtain ⟨p, ks, ho, h1, h2, h3, h4⟩ := s.atOd h0
  refine ⟨.ref p, ho, p, rfl, .inl ⟨ks, .inl h1⟩, ha σ G H _ s fun y G1 H1 g1 r1 => hx σ G1 H1 _ (s.grow g1) fun z G2 H2 g2 r2 => ?_⟩
  have g := g1.trans g2
  have ey : y = kV k := by cases k <;> exact r1
  subst ey
  refine ⟨valV ks k, DGet.k (g.h _ _ h1), ?_⟩
  rcases h2.val k with ⟨d', v', q1, q2, q3⟩ | ⟨q1, q2⟩
  · rw [q2]
    refine c v' G2 H2 g ?_
    rw [q1]
    exact Rp.mono g.g _ _ q3
  · rw [q2]
    refine c z G2 H2 g ?_
    rw [q1]
    exact r2
/-- d[k] = v of an own dict -/
theorem xs_dput {n : Nat} {kvs : List (Key × D)} {k : Key} (h0 : δ[n]? = some (.od kvs)) (hk : Ev E ta δ (kD k)) (hv : Ev E tb δ d) (hz : kvs.length < 100000) (c : Φ (.nx (δ.set n (.od (putD kvs k d))))) : Xs E (sDPut (tVar n) ta tb) δ Φ := fun σ G H X s q => by
  obtain ⟨p, ks, ho, h1, h2, h3, h4⟩ := s.atOd h0
  refine hv σ G H _ s fun v G1 H1 g1 r1 => ⟨.ref p, ho, hk σ G1 H1 _ (s.grow g1) fun y G2 H2 g2 r2 => ?_⟩
  have g := g1.trans g2
  have ey : y = kV k := by cases k <;> exact r2
  subst ey
  refine ⟨p, _, rfl, DPut.k (g.h _ _ h1) (by rw [h2.len]; exact Nat.lt_of_lt_of_le hz (by decide)), ?_⟩
  exact q _ c σ G2 _ g.g ((s.grow g).mutateD h0 ho ((h2.mono g.g).put k (Rp.mono g2.g _ _ r1)))
/-- an own dict may be shared from here on -/
theorem xs_shareD {i : Nat} {kvs : List (Key × D)} (o : δ[i]? = some (.od kvs)) (h : Xs E u (δ.set i (.d (dictD kvs))) Φ) : Xs E u δ Φ := fun σ G H X s p => by
  obtain ⟨o', ho⟩ := s.here o
  obtain ⟨F, q⟩ := s.rg
  obtain ⟨a, ks, e, h1, r⟩ := q.sl i _ o' o ho
  subst e
  have z := q.out i a (by rw [h1]; simp)
  have hp := q.in_ i a _ h1
  have sg : Same G (upd G a (.dK ks)) := same_new z.1
  refine h σ (upd G a (.dK ks)) H X ⟨s.g.trans sg, s.h, fun b hb gb => ?_, fun b u e => ?_, by simp [s.len], fun j => if j = i then none0 else F j, ?_⟩ fun o q => (p o q).mono sg
  · have ne : b ≠ a := fun e => hb (by rw [e]; exact z.2)
    rw [upd_ne ne]; exact s.n b hb gb
  · by_cases ne : b = a
    · subst ne; rw [upd_same] at e; cases e; exact hp
    · rw [upd_ne ne] at e; exact s.i b u e
  · refine ⟨fun j => ?_, fun j b hf => ?_, fun j k b ne hf => ?_, fun j t o q1 q2 => ?_⟩
    · by_cases e : j = i
      · simp only [e, if_true]; exact fun _ _ y => nomatch y
      · simp only [e, if_false]; exact q.in_ j
    · by_cases e : j = i
      · simp only [e, if_true] at hf; exact absurd rfl hf
      · simp only [e, if_false] at hf
        have y := q.out j b hf
        have ne : b ≠ a := fun w => hf (by rw [w]; exact q.ap i j a (Ne.symm e) (by rw [h1]; simp))
        exact ⟨by rw [upd_ne ne]; exact y.1, y.2⟩
    · by_cases e : j = i
      · simp only [e, if_true] at hf; exact absurd rfl hf
      · simp only [e, if_false] at hf
        by_cases e2 : k = i
        · simp only [e2, if_true]; rfl
        · simp only [e2, if_false]; exact q.ap j k b ne hf
    · by_cases e : j = i
      · subst e
        simp only [if_true]
        rw [List.getElem?_set] at q1
        simp only [if_true] at q1
        split at q1
        · cases q1
          rw [ho] at q2; cases q2
          exact ⟨_, rfl, a, ks, rfl, upd_same, rpD_of (r.mono sg)⟩
        · cases q1
      · simp only [e, if_false]
        rw [List.getElem?_set_ne (Ne.symm e)] at q1
        exact (q.sl j t o q1 q2).mono sg
/-- k in d, d among the data -/
theorem ev_din {kvs : List (Key × D)} {k : Key} (ha : Ev E ta δ (kD k)) (hb : Ev E tb δ (dictD kvs)) : Ev E (tDIn ta tb) δ (.bool (valD kvs k).isSome) := fun σ G H Q s c =>
  ha σ G H _ s fun y G1 H1 g1 r1 => hb σ G1 H1 _ (s.grow g1) fun x G2 H2 g2 r2 => by
    obtain ⟨a, ks, e, h1, h2⟩ := rp_dict r2
    subst e
    have ey : y = kV k := by cases k <;> exact r1
    subst ey
    refine ⟨a, valV ks k, rfl, DGet.k (g2.i _ _ h1), ?_⟩
    have e : (valV ks k).isSome = (valD kvs k).isSome := by
      rcases h2.val k with ⟨d', v', q1, q2, q3⟩ | ⟨q1, q2⟩
      · rw [q1, q2]; rfl
      · rw [q1, q2]; rfl
    rw [e]
    exact c _ G2 H2 (g1.trans g2) rfl

/-! ### a dict that is walked stands locked -/
def FzP (kvs : List (Key × D)) : Hp → Hp → V → Prop := fun G F v => ∃ p o ks, v = .ref p ∧ F p = some (.frz o (.dK ks)) ∧ RpK G kvs ks
abbrev fz (kvs : List (Key × D)) : Sl := .ob (FzP kvs)
theorem St.atFz {σ : L2.St} {G H : Hp} (s : St E δ σ G H) {i : Nat} {kvs : List (Key × D)} (h : δ[i]? = some (fz kvs)) : ∃ p o ks, σ[i]? = some (some (.ref p)) ∧ H p = some (.frz o (.dK ks)) ∧ RpK G kvs ks ∧ G p = none := by
  obtain ⟨o, ho⟩ := s.here h
  obtain ⟨F, q⟩ := s.rg
  obtain ⟨v, e, P⟩ := q.sl i _ o h ho
  subst e
  obtain ⟨p, od, ks, e, h1, r⟩ := P G (Same.refl G)
  subst e
  exact ⟨p, od, ks, ho, q.in_ i p _ h1, r, (q.out i p (by rw [h1]; simp)).1⟩
theorem evF_lock {i : Nat} {kvs : List (Key × D)} {ds : List D} (o : δ[i]? = some (.od kvs)) (h : EvF E te (δ.set i (fz kvs)) ds) : EvF E (tLockE te) δ ds := fun σ G H Q s k => by
  obtain ⟨p, ks, ho, h1, h2, h3, h4⟩ := s.atOd o
  refine ⟨p, .dK ks, h1, trivial, fun od => ?_⟩
  have s' : St E (δ.set i (fz kvs)) σ G (upd H p (.frz od (.dK ks))) := s.change (.od kvs) o ho (fun F q => by
    obtain ⟨p2, vs, e, q1, _⟩ := q
    cases e
    rw [q1]; simp) fun F q => ⟨.ref p, rfl, fun G' e => ⟨p, od, ks, rfl, upd_same, h2.mono e⟩⟩
  refine h σ G _ _ s' fun q vs G2 H2 g hq gq hq2 r => ?_
  have hp2 : H2 p = some (.frz od (.dK ks)) := g.h p _ upd_same
  have gp2 : G2 p = none := g.n p (by rw [upd_same]; simp) h3
  have nq : q ≠ p := fun e => by rw [e, upd_same] at hq; cases hq
  refine ⟨hp2, k q vs G2 _ ⟨g.g, fun a o' e => ?_, fun a ha ga => ?_, same_mut g.i gp2⟩ (by rw [upd_ne nq] at hq; exact hq) gq (by rw [upd_ne nq]; exact hq2) r⟩
  · by_cases ne : a = p
    · subst ne; rw [h1] at e; cases e; exact upd_same
    · rw [upd_ne ne]
      exact g.h a o' (by rw [upd_ne ne]; exact e)
  · by_cases ne : a = p
    · subst ne; exact gp2
    · exact g.n a (by rw [upd_ne ne]; exact ha) ga
theorem ei_keys {i : Nat} {kvs : List (Key × D)} (h0 : δ[i]? = some (fz kvs)) : EvIc E (iKeys (tVar i)) δ (kvs.map fun kv => kD kv.1) := fun σ G H R s k => by
  obtain ⟨p, od, ks, ho, h1, h2, h3⟩ := s.atFz h0
  refine ⟨.ref p, ho, p, od, rfl, .inl ⟨ks, h1, k _ G H (Gr.refl s.i) ?_⟩⟩
  unfold WalkC
  have hl : (kvs.map fun kv => kD kv.1).length = ks.length := by rw [List.length_map, h2.len]
  rw [hl]
  refine (walk_keys (d := p) (o := od) (kvs := ks)).mono (fun H' e => e p _ h1) fun j H' x H2 hj e y G' e1 e2 => ?_
  obtain ⟨eH, kk, vv, q1, q2⟩ := y
  subst eH q2
  obtain ⟨dd, q3, _⟩ := h2.get q1
  exact ⟨G', kD kk, by rw [List.getElem?_map, q3]; rfl, Gr.refl e2, by cases kk <;> rfl⟩
/-- d[k], d locked -/
theorem ev_dgetFz {n : Nat} {kvs : List (Key × D)} {k : Key} (h0 : δ[n]? = some (fz kvs)) (ha : Ev E ta δ (kD k)) (h : valD kvs k = some d) : Ev E (tDGet (tVar n) ta) δ d := fun σ G H Q s c => by
  obtain ⟨p, od, ks, ho, h1, h2, h3⟩ := s.atFz h0
  refine ⟨.ref p, ho, ha σ G H _ s fun y G1 H1 g1 r1 => ?_⟩
  have ey : y = kV k := by cases k <;> exact r1
  subst ey
  rcases h2.val k with ⟨d', v', q1, q2, q3⟩ | ⟨q1, q2⟩
  · rw [h] at q1; cases q1
    exact ⟨p, v', rfl, .inl ⟨ks, k, .inr ⟨od, g1.h _ _ h1⟩, rfl, q2.symm⟩, c v' G1 H1 g1 (Rp.mono g1.g _ _ q3)⟩
  · rw [h] at q1; cases q1
end
end PL

/-! PTop: a def of the row keeps its promise; a call by the promise; the end. -/
namespace PL
open PySem PySem.Spec PyProof.Rows L2
/-- a def that may be called by its name -/
structure Cl (P : Program) (w : World) (K : PySem.W.Frag) (mg : Str → Option Value) (base : Heap) (k : Nat) (x : Str) (sp : Sp) : Prop where
  ex : ∃ (f : Addr) (fd : FuncData) (ps : List Str), FnOk P w K mg base CX0 k f fd ps sp ∧ mg x = some (.ref f) ∧ PySem.W.keepIn K (.ref f) = true ∧ Binds K fd ps []
section
variable {X : Cx} {k j : Nat} {sp : Sp} {x : Str} {p pos : Pos} {e : Expr} {es : List Expr} {t : TA}
theorem pe_cl (c : Cl X.prog X.w X.K X.mg X.base k x sp) (hr : Room j X.A) (hk : k ≤ j) (hg : Gl X x) (ha : PA X (e :: es) t)
    (hdb : (x == ("__debug__" : Str)) = false := by decide) (he : starEach (e :: es) X.env = (false, eval e X.env) :: starEach es X.env := by rfl) (hpl : (backTo pos (starEach es X.env)).any (·.1) = false := by rfl) :
    PE X (.Call (.Name x p) (e :: es) [] pos) (tCall sp [] E0 t) := by
  obtain ⟨f, fd, ps, F, hm, kp, b⟩ := c.ex
  exact pe_call F (hr.mono hk) hg hm kp b .nil pass0 ha hdb he hpl
end
/-- a def of the row stands at its name -/
structure Fd (K : PySem.W.Frag) (mg : Str → Option Value) (x : Str) (st : Stmt) : Prop where
  ex : ∃ (f : Addr) (fd : FuncData), Fun K x x st f fd ∧ mg x = some (.ref f)
theorem fd_mk {K : PySem.W.Frag} {h : Heap} {mg : Str → Option Value} {x : Str} {st : Stmt} {f : Addr} {oc : Value} {od an : Option Addr} {osl : Array (Option Value)} {kV doc pm cdv ct : Value} (X : K.In h) (G : h.Ns mainGlobals mg)
    (a : PySem.W.nsIn K mainGlobals x = some (some (.ref f))) (l : K.lookup f = some ⟨oc, od, .func (PySem.W.fnOf x x (defArgs st) (defBody st) (defScope st) .none kV doc pm an cdv ct), osl⟩)
    (c : PySem.W.codeIn K cdv x = true) (kp : PySem.W.keepIn K (.ref f) = true) : Fd K mg x st := ⟨f, _, fun_mk l c kp, PySem.W.mg_of X G a⟩
section
variable {P : Program} {w : World} {K : PySem.W.Frag} {mg : Str → Option Value} {base : Heap}
theorem cl_of {x : Str} {st : Stmt} {N ps : List Str} {k : Nat} {sp : Sp} (F : Fd K mg x st) (S : FnScope N ps (defScope st)) (len : ∀ vs H Q E, sp vs H Q E → vs.length = ps.length)
    (hb : ∀ (kV doc pm : Value) (an : Option Addr) (cdv ct : Value) (us : List Value), us.length = ps.length → bindArgs (PySem.W.fnOf x x (defArgs st) (defBody st) (defScope st) .none kV doc pm an cdv ct) ⟨us, []⟩ = pure (ps.zip us))
    (hbody : ∀ (f : Addr) (cdv : Value) (A : Around) (outer : List Env) (s : Shared) (H : Hp) (vs : List V) (Q : VK) (E : XK), Room k (A.deeper (envOfC x (defScope st) s.heap.objs.size f cdv)) → sp vs H Q E →
      ∃ t, PSs (cxOf CX0 P w K mg base N x (defScope st) f cdv A outer s H E).nox (defBody st) t ∧ t { nx := fun _ H' => Q .non H', rt := Q } (start N vs) H) : Cl P w K mg base (k + 1) x sp := by
  obtain ⟨f, fd, fn, m⟩ := F.ex
  exact ⟨f, fd, ps, fn.ok S len fun cdv A outer s H vs Q E hr hs => hbody f cdv A outer s H vs Q E hr hs, m, fn.kp, fn.binds hb⟩
/-- a def that is never called so -/
theorem cl_false {x : Str} {st : Stmt} (F : Fd K mg x st) (n : Nat) (ps : List Str) (hb : ∀ (kV doc pm : Value) (an : Option Addr) (cdv ct : Value) (us : List Value), us.length = ps.length → bindArgs (PySem.W.fnOf x x (defArgs st) (defBody st) (defScope st) .none kV doc pm an cdv ct) ⟨us, []⟩ = pure (ps.zip us)) :
    Cl P w K mg base n x (fun _ _ _ _ => False) := by
  obtain ⟨f, fd, fn, m⟩ := F.ex
  exact ⟨f, fd, ps, ⟨fun _ _ _ _ h => h.elim, fun _ _ _ _ _ _ _ _ _ _ _ _ _ h => h.elim⟩, m, fn.kp, fn.binds hb⟩
end
end PL

/-! PMore: pairs, the line that walks an expression. -/
namespace PL
open PySem L2
section
variable {E : Ent} {δ δ' : List Sl} {ta tb te tc : TE} {tt tu : TT} {d d1 d2 a b : D}
theorem atI_0 {α : Type} {a : α} {r : List α} : atI (a :: r) 0 = some a := atI_nat (j := 0) rfl
theorem atI_1 {α : Type} {a b : α} {r : List α} : atI (a :: b :: r) 1 = some b := atI_nat (j := 1) rfl
theorem ev_ixT0 {r : List D} (ha : Ev E ta δ (.tuple (a :: r))) : Ev E (tOp (rIxT E.K) ta (tC (.int 0))) δ a := ev_ixT ha ev_int atI_0
theorem ev_ixT1 {r : List D} (ha : Ev E ta δ (.tuple (a :: b :: r))) : Ev E (tOp (rIxT E.K) ta (tC (.int 1))) δ b := ev_ixT ha ev_int atI_1
end

/-! ### isinstance by the datum -/
def isIntD : D → Bool
  | .bool _ => true
  | .int _ => true
  | _ => false
theorem kit_int : ∀ x : D, kitB (tyD x) "int" = some (isIntD x)
  | .none => (by decide +kernel : kitB "NoneType" "int" = some false)
  | .bool _ => (by decide +kernel : kitB "bool" "int" = some true)
  | .int _ => (by decide +kernel : kitB "int" "int" = some true)
  | .str _ => (by decide +kernel : kitB "str" "int" = some false)
  | .list _ => (by decide +kernel : kitB "list" "int" = some false)
  | .tuple _ => (by decide +kernel : kitB "tuple" "int" = some false)
  | .dict _ => (by decide +kernel : kitB "dict" "int" = some false)
def isBoolD : D → Bool
  | .bool _ => true
  | _ => false
theorem kit_bool : ∀ x : D, kitB (tyD x) "bool" = some (isBoolD x)
  | .none => (by decide +kernel : kitB "NoneType" "bool" = some false)
  | .bool _ => (by decide +kernel : kitB "bool" "bool" = some true)
  | .int _ => (by decide +kernel : kitB "int" "bool" = some false)
  | .str _ => (by decide +kernel : kitB "str" "bool" = some false)
  | .list _ => (by decide +kernel : kitB "list" "bool" = some false)
  | .tuple _ => (by decide +kernel : kitB "tuple" "bool" = some false)
  | .dict _ => (by decide +kernel : kitB "dict" "bool" = some false)
def isTupD : D → Bool
  | .tuple _ => true
  | _ => false
theorem kit_tuple : ∀ x : D, kitB (tyD x) "tuple" = some (isTupD x)
  | .none => (by decide +kernel : kitB "NoneType" "tuple" = some false)
  | .bool _ => (by decide +kernel : kitB "bool" "tuple" = some false)
  | .int _ => (by decide +kernel : kitB "int" "tuple" = some false)
  | .str _ => (by decide +kernel : kitB "str" "tuple" = some false)
  | .list _ => (by decide +kernel : kitB "list" "tuple" = some false)
  | .tuple _ => (by decide +kernel : kitB "tuple" "tuple" = some true)
  | .dict _ => (by decide +kernel : kitB "dict" "tuple" = some false)
def isListD : D → Bool
  | .list _ => true
  | _ => false
theorem kit_list : ∀ x : D, kitB (tyD x) "list" = some (isListD x)
  | .none => (by decide +kernel : kitB "NoneType" "list" = some false)
  | .bool _ => (by decide +kernel : kitB "bool" "list" = some false)
  | .int _ => (by decide +kernel : kitB "int" "list" = some false)
  | .str _ => (by decide +kernel : kitB "str" "list" = some false)
  | .list _ => (by decide +kernel : kitB "list" "list" = some true)
  | .tuple _ => (by decide +kernel : kitB "tuple" "list" = some false)
  | .dict _ => (by decide +kernel : kitB "dict" "list" = some false)
def isStrD : D → Bool
  | .str _ => true
  | _ => false
theorem kit_str : ∀ x : D, kitB (tyD x) "str" = some (isStrD x)
  | .none => (by decide +kernel : kitB "NoneType" "str" = some false)
  | .bool _ => (by decide +kernel : kitB "bool" "str" = some false)
  | .int _ => (by decide +kernel : kitB "int" "str" = some false)
  | .str _ => (by decide +kernel : kitB "str" "str" = some true)
  | .list _ => (by decide +kernel : kitB "list" "str" = some false)
  | .tuple _ => (by decide +kernel : kitB "tuple" "str" = some false)
  | .dict _ => (by decide +kernel : kitB "dict" "str" = some false)
section
variable {E : Ent} {δ : List Sl} {ta : TE} {x : D}
theorem ev_isi_int (ha : Ev E ta δ x) : Ev E (tCB (rIsi E.K) (tCons ta (tCons (tC (.ty "int")) tNil))) δ (.bool (isIntD x)) := ev_isi ha (kit_int x)
theorem ev_isi_bool (ha : Ev E ta δ x) : Ev E (tCB (rIsi E.K) (tCons ta (tCons (tC (.ty "bool")) tNil))) δ (.bool (isBoolD x)) := ev_isi ha (kit_bool x)
theorem ev_isi_tuple (ha : Ev E ta δ x) : Ev E (tCB (rIsi E.K) (tCons ta (tCons (tC (.ty "tuple")) tNil))) δ (.bool (isTupD x)) := ev_isi ha (kit_tuple x)
theorem ev_isi_list (ha : Ev E ta δ x) : Ev E (tCB (rIsi E.K) (tCons ta (tCons (tC (.ty "list")) tNil))) δ (.bool (isListD x)) := ev_isi ha (kit_list x)
theorem ev_isi_str (ha : Ev E ta δ x) : Ev E (tCB (rIsi E.K) (tCons ta (tCons (tC (.ty "str")) tNil))) δ (.bool (isStrD x)) := ev_isi ha (kit_str x)
theorem ev_isi_tl (ha : Ev E ta δ x) : Ev E (tCB (rIsiT E.K) (tCons ta (tCons (tTup (tCons (tC (.ty "tuple")) (tCons (tC (.ty "list")) tNil))) tNil))) δ (.bool (isTupD x || isListD x)) := ev_isi2 ha (kit_tuple x) (kit_list x)
end

/-! ### what the stones are -/
def stD (s : Int × Int) : D := .tuple [.int s.1, .int s.2]
def stonesD (ss : List (Int × Int)) : D := .list (ss.map stD)
def intsL (ns : List Int) : D := .list (ns.map .int)
def okN (i : Int) : Prop := 0 ≤ i ∧ i ≤ 999999
structure OkS (ss : List (Int × Int)) : Prop where
  len : ss.length ≤ 60
  mem : ∀ s ∈ ss, okN s.1 ∧ okN s.2
section
variable {E : Ent} {δ δ' : List Sl} {ta tb te tc : TE} {s : Int × Int}
theorem ev_st0 (ha : Ev E ta δ (stD s)) : Ev E (tOp (rIxT E.K) ta (tC (.int 0))) δ (.int s.1) := ev_ixT0 ha
theorem ev_st1 (ha : Ev E ta δ (stD s)) : Ev E (tOp (rIxT E.K) ta (tC (.int 1))) δ (.int s.2) := ev_ixT1 ha
end
/-! ### data that == tells apart -/
theorem lay_ints : ∀ ns : List Int, PyData.canLayAll0 (ns.map .int) = true
  | [] => rfl
  | n :: ns => by
    rw [List.map_cons, PyData.canLayAll0, lay_ints ns]
    simp [PyData.canLay0]
theorem dep_ints : ∀ ns : List Int, PyData.depthAll (ns.map .int) = 0
  | [] => rfl
  | n :: ns => by
    rw [List.map_cons, PyData.depthAll, dep_ints ns]
    simp [PyData.depth]
theorem shp_of {d : D} (h : d.canLay0 = true) (h2 : d.depth ≤ 64) : SeqAt.shaped d = true := by
  unfold SeqAt.shaped
  rw [h, decide_eq_true h2]; rfl
theorem shp_ints (ns : List Int) : SeqAt.shaped (.list (ns.map .int)) = true := shp_of (by rw [PyData.canLay0]; exact lay_ints ns) (by rw [PyData.depth, dep_ints]; decide)
theorem shp_nil : SeqAt.shaped (.list []) = true := shp_ints []
theorem lay_all {f : α → D} (h : ∀ a, (f a).canLay0 = true) : ∀ l : List α, PyData.canLayAll0 (l.map f) = true
  | [] => rfl
  | a :: l => by rw [List.map_cons, PyData.canLayAll0, lay_all h l, h a]; rfl
theorem dep_all {f : α → D} {k : Nat} (h : ∀ a, (f a).depth ≤ k) : ∀ l : List α, PyData.depthAll (l.map f) ≤ k
  | [] => Nat.zero_le _
  | a :: l => by
    rw [List.map_cons, PyData.depthAll]
    have := dep_all h l
    have := h a
    omega
end PL

/-! PSort: d.update(e), sorted(lists of ints): what the hand layer lacks. -/
namespace PL
open PySem PySem.Spec PyProof.Rows L2
/-! ### d.update(e) -/
def tDUpd (K : PySem.W.Frag) (td ty : TE) : TE := fun σ H Q => td σ H fun x H1 => ∃ a, x = .ref a ∧ IsD H1 a ∧ ty σ H1 fun y H2 => ∃ b kvs more, y = .ref b ∧ a ≠ b ∧ H2 a = some (.dK kvs) ∧ Rd H2 b (.dK more) ∧ kvs.length + more.length ≤ sizeLine ∧ Q .non (upd H2 a (.dK (mergeK kvs more)))
theorem pe_dupd {X : Cx} {o e : Expr} {apos cpos : Pos} {td ty : TE} (ho : PE X o td) (he : PE X e ty) (m : M1 X o "update" apos e cpos) : PE X (.Call (.Attribute o "update" apos) [e] [] cpos) (tDUpd X.K td ty) := by
  refine ⟨fun pins s σ H Q I h => ?_⟩
  refine wpAny_Call_method m.base m.few m.line PySem.F.plainAttrs_dict PySem.F.slot_dict_update PySem.F.type_dict_update (thn (ho.run pins s σ H _ I h) fun u s1 ⟨x, H1, I1, rx, a, ex, d, q1⟩ => ?_)
  subst ex
  obtain rfl : u = Value.ref a := rx
  obtain ⟨t1, t2, _⟩ := isD_at I1 d
  refine ⟨t1, t2, ?_⟩
  rw [m.trees]
  refine Calls.callWith_builtin rfl (Calls.evalArgs_plain (Calls.spliced_cons (thn (he.run pins s1 σ H1 _ I1 q1) fun iv s2 ⟨y, H2, I2, ry, b, kvs, more, ey, ne, ea, eb, hz, q2⟩ => Calls.spliced_nil ?_)))
  subst ey
  obtain rfl : iv = Value.ref b := ry
  obtain ⟨z, hd, vs, rel, dd⟩ := dk_of I2.hok ea
  obtain ⟨z2, hd2, vs2, rel2, dd2⟩ := dk_rd I2.hok eb
  refine call_meetsIn PySem.F.slot_dict_update dd.typeIs PySem.F.entry_dict_update (PySem.F.args_dict_update_2 _ _) (meets_dict_update (mixKind X.prog X.w) a b ne hd2)
    ⟨vs, vs2, dd, dd2, by rw [← rel.length, ← rel2.length]; exact hz, fun h' dd' _ hs => ⟨.non, _, ?_, rfl, q2⟩⟩
  have he : ∃ q, h'.get? a = some q := let ⟨q, _, _, hq, _⟩ := dd'; ⟨q, hq⟩
  have hz2 : (mergeK kvs more).length ≤ sizeLine := Nat.le_trans (length_mergeK more kvs) hz
  exact d_write I2 (by rw [ea]; exact True.intro) hs he (dk_new hz2 hd (rel2.merge rel) dd')

/-! ### sorted(lists of ints) -/
theorem first_lex : ∀ (ns ms : List Int) (i : Nat) (e r : Nat → Bool), (∀ j, e (i + j) = decide (ns.getD j 0 = ms.getD j 0)) → (∀ j, r (i + j) = decide (ns.getD j 0 < ms.getD j 0)) →
    PySem.SeqAt.firstLt e r (decide (ns.length < ms.length)) (List.range' i (min ns.length ms.length)) = HT.lexLt ns ms
  | [], [], i, e, r, he, hr => rfl
  | [], m :: ms, i, e, r, he, hr => by simp [PySem.SeqAt.firstLt, HT.lexLt_nil_cons]
  | n :: ns, [], i, e, r, he, hr => by simp [PySem.SeqAt.firstLt, HT.lexLt_cons_nil]
  | n :: ns, m :: ms, i, e, r, he, hr => by
    have e0 := he 0
    have r0 := hr 0
    simp only [Nat.add_zero, List.getD_cons_zero] at e0 r0
    have ih := first_lex ns ms (i + 1) e r (fun j => by have := he (j + 1); simpa [Nat.add_assoc, Nat.add_comm 1 j] using this) (fun j => by have := hr (j + 1); simpa [Nat.add_assoc, Nat.add_comm 1 j] using this)
    have em : min (n :: ns).length (m :: ms).length = min ns.length ms.length + 1 := by simp only [List.length_cons]; omega
    have el : decide ((n :: ns).length < (m :: ms).length) = decide (ns.length < ms.length) := by simp
    rw [em, el, List.range'_succ, HT.lexLt_cons]
    by_cases c : n = m
    · rw [PySem.SeqAt.firstLt_yes (by rw [e0, decide_eq_true c]), if_pos c, ih]
    · rw [PySem.SeqAt.firstLt_no (by rw [e0, decide_eq_false c]), if_neg c, r0]
/-- v is a list of these ints -/
def IsLI (h : Heap) (v : Value) (ns : List Int) : Prop := ∃ (a : Addr) (its : List Value), v = .ref a ∧ h.IsList a its.toArray ∧ IntsAre its ns
theorem IsLI.keeps {h h' : Heap} {v : Value} {ns : List Int} (x : IsLI h v ns) (k : ∀ b o, v = .ref b → h.get? b = some o → h'.get? b = some o) : IsLI h' v ns := by
  obtain ⟨a, its, e, l, i⟩ := x
  exact ⟨a, its, e, l.at fun o z => k _ _ e z, i⟩
section
variable {prog : Program} {w : World} {A : Around} {E : Value → Shared → Prop} {s : Shared}
theorem lt_li {v u : Value} {ns ms : List Int} {Q : Bool → Shared → Prop} (hu : A.units < cLine) (hv : IsLI s.heap v ns) (hw : IsLI s.heap u ms) (h : Q (HT.lexLt ns ms) s) : wpAny (model prog w) A (keyLt' oneType' v u) Q E s := by
  obtain ⟨a, its, rfl, la, ia⟩ := hv
  obtain ⟨b, its2, rfl, lb, ib⟩ := hw
  obtain ⟨o, ho, hc, n, hd⟩ := id la
  have e1 : its.toArray.size = ns.length := by rw [List.size_toArray]; exact ia.length
  have e2 : its2.toArray.size = ms.length := by rw [List.size_toArray]; exact ib.length
  have at1 : ∀ j (h1 : j < its.toArray.size), ∃ t, its.toArray[j] = .int (ns.getD j 0) t := fun j h1 => PyProof.Rows.IntsAre.int_at ia _ _ (by simp at h1; simp [h1])
  have at2 : ∀ j (h1 : j < its2.toArray.size), ∃ t, its2.toArray[j] = .int (ms.getD j 0) t := fun j h1 => PyProof.Rows.IntsAre.int_at ib _ _ (by simp at h1; simp [h1])
  rw [keyLt'_oneType, oneLt'_eq]
  simp only [if_true]
  refine wpAny_bind (wpAny_cRoomFor hu ?_)
  refine wpAny_bind (wpAny_callSpecialIfBound?_slot (T := "list") ⟨o, ho, hc⟩ F.slot_list_lt (PySem.SeqAt.call_list_lt (e := fun j => decide (ns.getD j 0 = ms.getD j 0)) (r := fun j => decide (ns.getD j 0 < ms.getD j 0)) la lb (fun j h1 h2 => ?_) (fun j h1 h2 _ => ?_) ?_))
  · obtain ⟨t, et⟩ := at1 j h1
    obtain ⟨t', et'⟩ := at2 j h2
    rw [et, et']
    have z : (ns.getD j 0 == ms.getD j 0) = decide (ns.getD j 0 = ms.getD j 0) := by
      by_cases q : ns.getD j 0 = ms.getD j 0
      · rw [decide_eq_true q]; exact beq_iff_eq.mpr q
      · rw [decide_eq_false q]; exact beq_eq_false_iff_ne.mpr q
    rw [← z]
    exact PySem.SeqAt.EqAt.int_int _ _ _ _
  · obtain ⟨t, et⟩ := at1 j h1
    obtain ⟨t', et'⟩ := at2 j h2
    rw [et, et']
    exact fun prog w E Q hq => PyProof.Rows.lt_int hq
  · rw [e1, e2, List.range_eq_range', first_lex ns ms 0 _ _ (fun j => by rw [Nat.zero_add]) (fun j => by rw [Nat.zero_add])]
    exact wpAny_truthy_bool h
theorem li_sortable {a : Addr} {vs : List Value} {k : Value → List Int} (h2 : 2 ≤ vs.length) (hu : A.units < cLine) (hv : ∀ v ∈ vs, IsLI s.heap v (k v)) (ha : ∀ v ∈ vs, v ≠ .ref a) :
    SrtO.SortableO prog w A s a vs fun v u => HT.lexLt (k v) (k u) := by
  intro h' keep
  have hv' : ∀ v ∈ vs, IsLI h' v (k v) := fun v hm => (hv v hm).keeps fun b o e g => keep b o (fun z => ha v hm (by rw [e, z])) g
  refine ⟨oneType', fun Q E hq => ?_, fun p q hp hq => lt_li (s := { s with heap := h' }) (Q := fun r s' => s' = { s with heap := h' } ∧ r = HT.lexLt (k p.1) (k q.1)) (E := fun _ _ => False) hu (hv' p.1 hp) (hv' q.1 hq) ⟨rfl, rfl⟩⟩
  refine PySem.W.kas_kind (s := { s with heap := h' }) (T := .type "list") h2 (fun v hm => ?_) (by rfl) (by rfl) hq
  obtain ⟨b, its, rfl, l, _⟩ := hv' v hm
  obtain ⟨⟨c, dd, dat, sl⟩, ho, hc, _⟩ := l
  simp only at hc
  subst hc
  exact (PySem.W.Looks.ld ho).andThen .now
end
/-- sorted(xs), lists of ints -/
def rSortedL (K : PySem.W.Frag) : List V → Hp → VK → Prop := fun vs H Q => ∃ (a : Addr) (ts : List Addr) (k : Addr → List Int), vs = [V.ref a] ∧ SqL K H a (ts.map V.ref) ∧ (∀ t ∈ ts, H t = some (.lst ((k t).map V.int))) ∧
  ∀ (ts' : List Addr) (p : Addr), ts'.Perm ts → ts'.Pairwise (fun p q => HT.lexLt (k q) (k p) = false) → H p = none → Q (.ref p) (upd H p (.lst (ts'.map V.ref)))
theorem cr_sortedL {X : Cx} {j : Nat} (hr : Room j X.A) : CallR X (.builtin "sorted") (rSortedL X.K) := by
  intro pins s σ H vs us Q I r h
  obtain ⟨a, ts, k, rfl, hs, hN, q⟩ := h
  obtain ⟨its, rv, hl, hz⟩ := I.list hs
  rw [Vals.ref1 r]
  have ei := nts_of rv
  have hv : ∀ u ∈ its, IsLI s.heap u (k (adO u)) := fun u hm => by
    rw [ei] at hm
    obtain ⟨t, ht, rfl⟩ := List.mem_map.mp hm
    obtain ⟨_, its2, n, rv2, hob⟩ := I.hok t _ (hN t ht)
    exact ⟨t, its2, rfl, ⟨_, hob, rfl, _, rfl⟩, rv2.ints⟩
  have hu := hr.units
  refine SrtO.sorted_ord (NtL.swo_lexL fun u => k (adO u)) hl.isList (by rw [← rv.length]; exact hz) (fun h2 h₁ a' ha' kk => li_sortable h2 (by simp only [Around.in1_units]; omega) (fun u hm => (hv u hm).keeps fun b o _ e => (kk b o e).2) fun u hm z => ?_) fun out h1 h2 => ?_
  · obtain ⟨b, its2, e, l, _⟩ := hv u hm
    obtain ⟨o, ho, _⟩ := l
    rw [e] at z
    exact (kk b o ho).1 (Value.ref.inj z)
  obtain ⟨ep, he'⟩ := PyProof.Rows.sortedAll_at s.heap its out.toArray
  have eo : out = (out.map adO).map Value.ref := ref_map fun u hm => by
    have hm' : u ∈ its := h2.perm.mem_iff.mp hm
    rw [ei] at hm'
    obtain ⟨t, _, e⟩ := List.mem_map.mp hm'
    exact ⟨t, e.symm⟩
  have hp : (out.map adO).Perm ts := by
    have p1 := h2.perm.map adO
    rw [ei, ad_map] at p1
    exact p1
  have hs : (out.map adO).Pairwise (fun p q => HT.lexLt (k q) (k p) = false) := List.pairwise_map.mpr (h1.imp fun {x y} z => z)
  have hlen : ((out.map adO).map V.ref).length ≤ sizeLine := by
    rw [List.length_map, hp.length_eq]
    rw [List.length_map] at hz
    exact hz
  have ov : Vals ((out.map adO).map V.ref) out := by
    have := of_nts (out.map adO)
    rw [← eo] at this
    exact this
  exact ⟨.ref _, upd H (s.heap.objs.size + 1) (.lst ((out.map adO).map V.ref)), I.laid (t' := s.toks) (fun _ _ => PyProof.Rows.sortedAll_old) (Nat.le_succ _) ⟨hlen, out, ep, ov, he'⟩, rfl, q _ _ hp hs (I.hok.fresh (Nat.le_succ _))⟩
end PL

/-! PFresh: things made anew in a call: own trees of data, lists whose items are new as well, dict.update, list.remove. -/
namespace PL
open PySem L2

/-- the part of H that does not stand in A -/
def out (A H : Hp) : Hp := fun a => match A a with
  | none => H a
  | some _ => none
theorem out_none {A H : Hp} {a : Addr} (h : A a = none) : out A H a = H a := by unfold out; rw [h]
theorem out_ne {A H : Hp} {a : Addr} (h : out A H a ≠ none) : A a = none := by
  unfold out at h
  cases e : A a with
  | none => rfl
  | some o => rw [e] at h; exact absurd rfl h
theorem out_some {A H : Hp} {a : Addr} {o : HO} (h : out A H a = some o) : A a = none ∧ H a = some o := by
  have z := out_ne (A := A) (H := H) (a := a) (by rw [h]; simp)
  rw [out_none z] at h
  exact ⟨z, h⟩
theorem out_mono {A H H2 : Hp} (e : Same H H2) : Same (out A H) (out A H2) := fun a o h => by
  obtain ⟨z, h⟩ := out_some h
  rw [out_none z]; exact e a o h
theorem out_in {A H : Hp} : Same (out A H) H := fun a o h => (out_some h).2
/-- two heaps as one -/
def jn (A F : Hp) : Hp := fun a => match A a with
  | none => F a
  | some o => some o
theorem jn_l {A F : Hp} : Same A (jn A F) := fun a o h => by unfold jn; rw [h]
theorem jn_r {A F : Hp} (h : ∀ a, F a ≠ none → A a = none) : Same F (jn A F) := fun a o e => by
  unfold jn
  rw [h a (by rw [e]; simp)]
  exact e
theorem jn_some {A F : Hp} {a : Addr} {o : HO} (h : jn A F a = some o) : A a = some o ∨ (A a = none ∧ F a = some o) := by
  unfold jn at h
  cases e : A a with
  | none => rw [e] at h; exact .inr ⟨rfl, h⟩
  | some u => rw [e] at h; exact .inl h
theorem jn_none {A F : Hp} {a : Addr} (h : A a = none) (h2 : F a = none) : jn A F a = none := by unfold jn; rw [h]; exact h2
theorem jn_in {A F H : Hp} (h : Same A H) (h2 : Same F H) : Same (jn A F) H := fun a o e => by
  rcases jn_some e with z | ⟨_, z⟩
  · exact h a o z
  · exact h2 a o z

/-- a value that P holds of -/
def EvP (E : Ent) (te : TE) (δ : List Sl) (P : Hp → V → Prop) : Prop := ∀ σ G H Q, St E δ σ G H → (∀ v G2 H2, Gr G H G2 H2 → P G2 v → Q v H2) → te σ H Q
/-- a datum made of nothing that stood at the entry -/
def fr (E : Ent) (d : D) : Hp → V → Prop := fun G v => Rp (out E.H G) d v
theorem fr_mono {E : Ent} {d : D} {G G2 : Hp} {v : V} (e : Same G G2) (h : fr E d G v) : fr E d G2 v := Rp.mono (out_mono e) _ _ h
/-- the values of a list -/
def Par (G : Hp) : List (Hp → V → Prop) → List V → Prop
  | [], vs => vs = []
  | P :: Ps, vs => ∃ v r, vs = v :: r ∧ P G v ∧ Par G Ps r
def Mon (P : Hp → V → Prop) : Prop := ∀ G G2 v, Same G G2 → P G v → P G2 v
theorem Par.mono {G G2 : Hp} (e : Same G G2) : ∀ {Ps : List (Hp → V → Prop)} {vs : List V}, (∀ P ∈ Ps, Mon P) → Par G Ps vs → Par G2 Ps vs
  | [], _, _, h => h
  | P :: Ps, _, m, ⟨v, r, h1, h2, h3⟩ => ⟨v, r, h1, m P List.mem_cons_self _ _ _ e h2, Par.mono e (fun Q hq => m Q (List.mem_cons_of_mem _ hq)) h3⟩
theorem Par.len {G : Hp} : ∀ {Ps : List (Hp → V → Prop)} {vs : List V}, Par G Ps vs → vs.length = Ps.length
  | [], _, h => by cases h; rfl
  | _ :: _, _, ⟨_, _, h1, _, h3⟩ => by subst h1; simp [Par.len h3]
theorem Par.snoc {G : Hp} {P : Hp → V → Prop} {v : V} (k : P G v) : ∀ {Ps : List (Hp → V → Prop)} {vs : List V}, Par G Ps vs → Par G (Ps ++ [P]) (vs ++ [v])
  | [], _, h => by cases h; exact ⟨v, [], rfl, k, rfl⟩
  | _ :: _, _, ⟨u, r, h1, h2, h3⟩ => by subst h1; exact ⟨u, _, rfl, h2, Par.snoc k h3⟩
theorem par_fr {E : Ent} {G : Hp} : ∀ {ds : List D} {vs : List V}, Par G (ds.map (fr E)) vs → RpA (out E.H G) ds vs
  | [], _, h => h
  | d :: ds, _, ⟨v, r, h1, h2, h3⟩ => ⟨v, r, h1, h2, par_fr h3⟩
theorem fr_par {E : Ent} {G : Hp} : ∀ {ds : List D} {vs : List V}, RpA (out E.H G) ds vs → Par G (ds.map (fr E)) vs
  | [], _, h => h
  | d :: ds, _, ⟨v, r, h1, h2, h3⟩ => ⟨v, r, h1, h2, fr_par h3⟩
/-- a new list of values that P holds of -/
def EvL (E : Ent) (te : TE) (δ : List Sl) (Ps : List (Hp → V → Prop)) : Prop := ∀ σ G H (Q : VK), St E δ σ G H → (∀ p vs G2 H2, Gr G H G2 H2 → H p = none → G2 p = none → H2 p = some (.lst vs) → Par G2 Ps vs → Q (.ref p) H2) → te σ H Q
/-- a tree that nothing else knows -/
def own (d : D) : Sl := .ob (fun _ F v => Rp F d v)
/-- a datum made anew in this call, shared -/
def nd (E : Ent) (d : D) : Sl := .ob (fun G _ v => fr E d G v)
/-- a call that hands back a tree of its own -/
def EvN (E : Ent) (te : TE) (δ : List Sl) (d : D) : Prop := ∀ σ G H (Q : VK), St E δ σ G H → (∀ v F G2 H2, Gr G H G2 H2 → Same F H2 → (∀ a, F a ≠ none → H a = none ∧ G2 a = none) → Rp F d v → Q v H2) → te σ H Q
def spN (K : PySem.W.Frag) (R : List Sl → D → Prop) : Sp := fun vs H Q _ => ∃ G as d, Same G H ∧ ArgsR K G H as vs ∧ R as d ∧ ∀ v F H2, Same H H2 → Same F H2 → (∀ a, F a ≠ none → H a = none) → Rp F d v → Q v H2
section
variable {E : Ent} {δ δ' : List Sl} {ta tb te tc : TE} {tt tu : TT} {d d1 d2 : D} {Φ : Out → Prop} {u : TS} {t : TA}
theorem EvP.ev (h : EvP E te δ (fun G v => Rp G d v)) : Ev E te δ d := h
theorem EvP.imp {P P' : Hp → V → Prop} (h : EvP E te δ P) (k : ∀ G v, P G v → P' G v) : EvP E te δ P' := fun σ G H Q s c => h σ G H Q s fun v G2 H2 g r => c v G2 H2 g (k _ _ r)
theorem EvF.fr {ds : List D} (h : EvF E te δ ds) (hs : ds.all scalD = true) : EvP E te δ (PL.fr E (.list ds)) := fun σ G H Q s k => h σ G H Q s fun p vs G2 H2 g hp gp h2 r => by
  have sg : Same G2 (upd G2 p (.lst vs)) := same_new gp
  refine k (.ref p) (upd G2 p (.lst vs)) H2 ⟨g.g.trans sg, g.h, fun a ha ga => ?_, fun a u e => ?_⟩ ⟨p, vs, rfl, ?_, scalA_rp hs r⟩
  · have ne : a ≠ p := fun z => ha (by rw [z]; exact hp)
    rw [upd_ne ne]; exact g.n a ha ga
  · by_cases ne : a = p
    · subst ne; rw [upd_same] at e; cases e; exact h2
    · rw [upd_ne ne] at e; exact g.i a u e
  · rw [out_none (s.h.free hp)]; exact upd_same
theorem EvL.evF {ds : List D} (h : EvL E te δ (ds.map fun d G v => Rp G d v)) : EvF E te δ ds := fun σ G H Q s k => h σ G H Q s fun p vs G2 H2 g hp gp h2 r => k p vs G2 H2 g hp gp h2 (by
  have : ∀ {ds : List D} {vs : List V}, Par G2 (ds.map fun d G v => Rp G d v) vs → RpA G2 ds vs := by
    intro ds
    induction ds with
    | nil => exact fun h => h
    | cons d ds ih => exact fun ⟨v, r, h1, h2, h3⟩ => ⟨v, r, h1, h2, ih h3⟩
  exact this r)
theorem xs_retL {ds : List D} (h : EvL E te δ (ds.map (fr E))) (k : Φ (.rf (.list ds))) : Xs E (tRet te) δ Φ := fun σ G H X s p => h σ G H _ s fun q vs G1 H1 g hp gp h2 r => by
  have z := par_fr r
  have i1 : Same (out E.H G1) H1 := out_in.trans g.i
  refine p _ k (.ref q) (upd (out E.H G1) q (.lst vs)) H1 (s.h.trans g.h) (fun a o e => ?_) (fun a e => ?_) ⟨q, vs, rfl, upd_same, RpA.mono (same_new ?_) _ _ z⟩
  · by_cases ne : a = q
    · subst ne; rw [upd_same] at e; cases e; exact h2
    · rw [upd_ne ne] at e; exact i1 a o e
  · by_cases ne : a = q
    · subst ne; exact s.h.free hp
    · rw [upd_ne ne] at e; exact out_ne e
  · cases e : out E.H G1 q with
    | none => rfl
    | some o => rw [(out_some e).2] at gp; cases gp
/-- what a call hands back -/
theorem evN_call {R : List Sl → D → Prop} {as : List Sl} {XE : XK} (h : Ea E t δ as) (hR : R as d) : EvN E (tCall (spN E.K R) [] XE t) δ d := fun σ G H Q s k =>
  h σ G H _ s fun us G1 H1 g1 r1 => by
    rw [List.append_nil]
    exact ⟨G1, as, d, g1.i, r1, hR, fun v F H2 e1 e2 e3 r2 => k v F G1 H2 (g1.trans (Gr.side g1.i e1)) e2 (fun a ha => ⟨g1.h.free (e3 a ha), g1.i.free (e3 a ha)⟩) r2⟩
theorem EvN.grow {σ : L2.St} {G H G2 H2 F : Hp} (g : Gr G H G2 H2) (i : Same F H2) (n : ∀ a, F a ≠ none → H a = none ∧ G2 a = none) : Gr G H (jn G2 F) H2 :=
  ⟨g.g.trans jn_l, g.h, fun a ha ga => jn_none (g.n a ha ga) (by
    cases e : F a with
    | none => rfl
    | some o => exact absurd (n a (by rw [e]; simp)).1 ha), jn_in g.i i⟩
theorem EvN.ev (h : EvN E te δ d) : Ev E te δ d := fun σ G H Q s k => h σ G H Q s fun v F G2 H2 g i n r => k v (jn G2 F) H2 (EvN.grow (σ := σ) g i n) (Rp.mono (jn_r fun a ha => (n a ha).2) _ _ r)
theorem EvN.fr (h : EvN E te δ d) : EvP E te δ (PL.fr E d) := fun σ G H Q s k => h σ G H Q s fun v F G2 H2 g i n r => k v (jn G2 F) H2 (EvN.grow (σ := σ) g i n) (by
  refine Rp.mono (fun a o e => ?_) _ _ r
  have z := n a (by rw [e]; simp)
  rw [out_none (s.h.free z.1)]
  exact jn_r (fun a ha => (n a ha).2) a o e)
theorem xs_asgN {i : Nat} (h : EvN E te δ d) (k : Φ (.nx (δ.set i (own d)))) : Xs E (tAsg te (gName i)) δ Φ := fun σ G H X s p => h σ G H _ s fun v F G1 H1 g i1 n r => p _ k _ G1 H1 g.g (s.put g i (own d) (some v) F i1 n ⟨v, rfl, fun _ _ => r⟩)
theorem q_asgN {i : Nat} (h : EvN E te δ d) (k : Xs E u (δ.set i (own d)) Φ) : Xs E (tSeq (tAsg te (gName i)) u) δ Φ := xs_seq (xs_asgN h k)
theorem spN_run {K : PySem.W.Frag} {R : List Sl → D → Prop} {t : TS} {N : List Str} {vs : List V} {H : Hp} {Q : VK} {XE : XK} (hsp : spN K R vs H Q XE) (hn : vs.length ≤ N.length)
    (h : ∀ as d, R as d → ∀ E : Ent, E.K = K → Xs E t (argSl as (N.length - as.length)) fun o => o = .rf d) : t { nx := fun _ H' => Q .non H', rt := Q } (start N vs) H := by
  obtain ⟨G, as, d, i, r, hR, k⟩ := hsp
  refine h as d hR ⟨K, G, H⟩ rfl (start N vs) G H _ (st_start i r hn) fun o e => ?_
  subst e
  exact fun v F H' e1 e2 e3 r => k v F H' e1 e2 e3 r
theorem spN_len {K : PySem.W.Frag} {R : List Sl → D → Prop} {n : Nat} {vs : List V} {H : Hp} {Q : VK} {XE : XK} (hsp : spN K R vs H Q XE) (h : ∀ as d, R as d → as.length = n) : vs.length = n := by
  obtain ⟨G, as, d, i, r, hR, k⟩ := hsp
  rw [r.len, h as d hR]
/-- an own tree lent -/
theorem St.shareN {σ : L2.St} {G H : Hp} {i : Nat} (s : St E δ σ G H) (h : δ[i]? = some (own d)) :
    ∃ F, Same F H ∧ (∀ a, F a ≠ none → G a = none ∧ E.H a = none) ∧ St E (δ.set i (.d d)) σ (jn G F) H := by
  obtain ⟨o, ho⟩ := s.here h
  obtain ⟨F, q⟩ := s.rg
  obtain ⟨v, e, r⟩ := q.sl i _ o h ho
  have r := r G (Same.refl G)
  subst e
  have sg : Same G (jn G (F i)) := jn_l
  refine ⟨F i, q.in_ i, q.out i, s.g.trans sg, s.h, fun a ha ga => jn_none (s.n a ha ga) ?_, jn_in s.i (q.in_ i), by simp [s.len], fun j => if j = i then none0 else F j, ?_⟩
  · cases e : F i a with
    | none => rfl
    | some o => exact absurd (q.out i a (by rw [e]; simp)).2 ha
  · refine ⟨fun j => ?_, fun j a hf => ?_, fun j k a ne hf => ?_, fun j t o q1 q2 => ?_⟩
    · by_cases e : j = i
      · simp only [e, if_true]; exact fun _ _ y => nomatch y
      · simp only [e, if_false]; exact q.in_ j
    · by_cases e : j = i
      · simp only [e, if_true] at hf; exact absurd rfl hf
      · simp only [e, if_false] at hf
        have y := q.out j a hf
        exact ⟨jn_none y.1 (q.ap j i a e hf), y.2⟩
    · by_cases e : j = i
      · simp only [e, if_true] at hf; exact absurd rfl hf
      · simp only [e, if_false] at hf
        by_cases e2 : k = i
        · simp only [e2, if_true]; rfl
        · simp only [e2, if_false]; exact q.ap j k a ne hf
    · by_cases e : j = i
      · subst e
        simp only [if_true]
        rw [List.getElem?_set] at q1
        simp only [if_true] at q1
        split at q1
        · cases q1
          rw [ho] at q2; cases q2
          exact ⟨v, rfl, Rp.mono (jn_r fun a ha => (q.out j a ha).1) _ _ r⟩
        · cases q1
      · simp only [e, if_false]
        rw [List.getElem?_set_ne (Ne.symm e)] at q1
        exact (q.sl j t o q1 q2).mono sg
theorem Et.lendN {b : Bool} {i : Nat} (o : δ[i]? = some (own d)) (h : Et E tt (δ.set i (.d d)) b) : Et E tt δ b := fun σ G H Q s k => by
  obtain ⟨F, _, _, s'⟩ := s.shareN o
  exact h σ _ H Q s' fun G2 H2 g => k G H2 (Gr.side s.i g.h)
theorem Ev.lendN {i : Nat} {x : D} (o : δ[i]? = some (own x)) (h : Ev E te (δ.set i (.d x)) d) (hs : scalD d = true) : Ev E te δ d := fun σ G H Q s k => by
  obtain ⟨F, _, _, s'⟩ := s.shareN o
  exact h σ _ H Q s' fun v G2 H2 g r => k v G H2 (Gr.side s.i g.h) (scal_rp hs r)
theorem xs_shareN {i : Nat} (o : δ[i]? = some (own d)) (h : Xs E u (δ.set i (.d d)) Φ) : Xs E u δ Φ := fun σ G H X s p => by
  obtain ⟨F, _, _, s'⟩ := s.shareN o
  exact h σ _ H X s' fun o q => (p o q).mono jn_l
/-- what is known of a slot, less -/
theorem xs_weak {i : Nat} {P P' : Hp → Hp → V → Prop} (o : δ[i]? = some (.ob P)) (w : ∀ G F v, (∀ G', Same G G' → P G' F v) → ∀ G', Same G G' → P' G' F v) (h : Xs E u (δ.set i (.ob P')) Φ) : Xs E u δ Φ := fun σ G H X s p => by
  refine h σ G H X ⟨s.g, s.h, s.n, s.i, by simp [s.len], ?_⟩ p
  obtain ⟨F, q⟩ := s.rg
  refine ⟨F, q.in_, q.out, q.ap, fun j t o' q1 q2 => ?_⟩
  by_cases e : j = i
  · subst e
    rw [List.getElem?_set] at q1
    simp only [if_true] at q1
    split at q1
    · cases q1
      obtain ⟨v, e, r⟩ := q.sl j _ o' o q2
      exact ⟨v, e, w G _ v r⟩
    · cases q1
  · rw [List.getElem?_set_ne (Ne.symm e)] at q1
    exact q.sl j t o' q1 q2
/-- what is there of a slot is named -/
theorem xs_open {α : Type} {i : Nat} {P : Hp → V → Prop} {P' : α → Hp → V → Prop} (o : δ[i]? = some (.ob fun _ F v => P F v)) (w : ∀ F v, P F v → ∃ x, P' x F v) (h : ∀ x, Xs E u (δ.set i (.ob fun _ F v => P' x F v)) Φ) : Xs E u δ Φ := fun σ G H X s p => by
  obtain ⟨o', ho⟩ := s.here o
  obtain ⟨F, q⟩ := s.rg
  obtain ⟨v, e, r⟩ := q.sl i _ o' o ho
  obtain ⟨x, r2⟩ := w _ v (r G (Same.refl G))
  refine h x σ G H X ⟨s.g, s.h, s.n, s.i, by simp [s.len], F, q.in_, q.out, q.ap, fun j t o2 q1 q2 => ?_⟩ p
  by_cases e2 : j = i
  · subst e2
    rw [List.getElem?_set] at q1
    simp only [if_true] at q1
    split at q1
    · cases q1
      rw [ho] at q2; cases q2
      exact ⟨v, e, fun _ _ => r2⟩
    · cases q1
  · rw [List.getElem?_set_ne (Ne.symm e2)] at q1
    exact q.sl j t o2 q1 q2
/-- an own object somewhere in a slot's region is changed -/
theorem St.changeIn {σ : L2.St} {G H : Hp} {i : Nat} {P P' : Hp → V → Prop} {a : Addr} {u' : HO} (s : St E δ σ G H) (hw : δ[i]? = some (.ob fun _ F v => P F v))
    (inn : ∀ F v, P F v → F a ≠ none) (r : ∀ F v, P F v → P' (upd F a u') v) : St E (δ.set i (.ob fun _ F v => P' F v)) σ G (upd H a u') := by
  obtain ⟨o, ho⟩ := s.here hw
  obtain ⟨F, q⟩ := s.rg
  obtain ⟨v, e, hs⟩ := q.sl i _ o hw ho
  subst e
  have hs := hs G (Same.refl G)
  have fp := inn _ _ hs
  have z := q.out i a fp
  have i2 : Same G (upd H a u') := same_mut s.i z.1
  have := q.step s.i i (.ob fun _ F v => P' F v) (some v) (upd (F i) a u') (Same.refl G) i2 (fun _ _ h => h) (fun b o h hf => by
    have ne : b ≠ a := fun e => by subst e; exact fp hf
    rw [upd_ne ne]; exact h) (fun b o h => by
    by_cases e : b = a
    · subst e; rw [upd_same] at h ⊢; exact h
    · rw [upd_ne e] at h ⊢; exact q.in_ i b o h) (fun b h => by
    by_cases e : b = a
    · subst e; exact z
    · rw [upd_ne e] at h; exact q.out i b h) (fun b h => by
    by_cases e : b = a
    · subst e; exact .inl fp
    · rw [upd_ne e] at h; exact .inl h) ⟨v, rfl, fun _ _ => r _ _ hs⟩
  rw [set_get ho] at this
  exact ⟨s.g, same_mut s.h z.2, s.n, i2, by simp [s.len], _, this⟩
/-- an append to a list somewhere in a slot's region, the list known by its name j -/
theorem evM_appendIn {i j : Nat} {a : Addr} {P P' : Hp → V → Prop} (hj : δ[j]? = some (.v (.ref a))) (hi : δ[i]? = some (.ob fun _ F v => P F v)) (ha : Ev E ta δ d)
    (at_ : ∀ F v, P F v → ∃ us, F a = some (.lst us) ∧ us.length < 100000) (r : ∀ F v us z, P F v → F a = some (.lst us) → P' (upd F a (.lst (us ++ [z]))) v) :
    EvM E (tBM E.K "list" rAppend (tVar j) (tCons ta tNil)) δ (δ.set i (.ob fun _ F v => P' F v)) .none := fun σ G H Q s k => by
  have hv := s.atV hj
  have hh : ∀ {G H : Hp}, St E δ σ G H → ∃ us, H a = some (.lst us) ∧ us.length < 100000 ∧ ∀ F v, P F v → Same F H → F a = some (.lst us) := by
    intro G H s
    obtain ⟨o, ho⟩ := s.here hi
    obtain ⟨F, q⟩ := s.rg
    obtain ⟨v, e, hs⟩ := q.sl i _ o hi ho
    obtain ⟨us, h1, h2⟩ := at_ _ _ (hs G (Same.refl G))
    refine ⟨us, q.in_ i a _ h1, h2, fun F' v' p e => ?_⟩
    obtain ⟨us', h3, _⟩ := at_ _ _ p
    have := e a _ h3
    rw [q.in_ i a _ h1] at this
    cases this
    exact h3
  obtain ⟨us, h1, _⟩ := hh s
  refine ⟨.ref a, hv, .inl ⟨rfl, _, SqL.of h1⟩, ha σ G H _ s fun v G2 H2 g rv => ?_⟩
  have s2 := s.grow g
  obtain ⟨us2, h3, h4, h5⟩ := hh s2
  have st : St E (δ.set i (.ob fun _ F v => P' F v)) σ G2 (upd H2 a (.lst (us2 ++ [v]))) := by
    obtain ⟨o, ho⟩ := s2.here hi
    obtain ⟨F, q⟩ := s2.rg
    obtain ⟨w, e, hs⟩ := q.sl i _ o hi ho
    subst e
    have hs := hs G2 (Same.refl G2)
    have fa := h5 _ _ hs (q.in_ i)
    -- P at this region alone
    have := St.changeIn (P := fun F v' => P F v' ∧ F a = some (.lst us2)) (P' := P') (a := a) (u' := .lst (us2 ++ [v])) (i := i) (δ := δ.set i (.ob fun _ F v' => P F v' ∧ F a = some (.lst us2))) (σ := σ) (G := G2) (H := H2) ⟨s2.g, s2.h, s2.n, s2.i, by simp [s2.len], F, q.in_, q.out, q.ap, fun j t o2 q1 q2 => by
      by_cases e2 : j = i
      · subst e2
        rw [List.getElem?_set] at q1
        simp only [if_true] at q1
        split at q1
        · cases q1
          rw [ho] at q2; cases q2
          exact ⟨w, rfl, fun _ _ => ⟨hs, fa⟩⟩
        · cases q1
      · rw [List.getElem?_set_ne (Ne.symm e2)] at q1
        exact q.sl j t o2 q1 q2⟩ (by
      have lt := (List.getElem?_eq_some_iff.mp hi).1
      simp [lt]) (fun F v' p => by rw [p.2]; simp) (fun F v' p => r F v' us2 v p.1 p.2)
    rw [List.set_set] at this
    exact this
  exact ⟨a, us2, v, rfl, rfl, h3, Nat.lt_of_lt_of_le h4 (by decide), k _ G2 _ g.g st rfl⟩
end
end PL

/-! PLoop: walks and comprehensions over things made anew, loops over own trees, update, remove, sorted lists. -/
namespace PL
open PySem L2

/-! ### comprehensions whose items are known by what holds of them -/
def WalkP (J : It) (Gs Hs : Hp) (Ps : List (Hp → V → Prop)) : Prop := Walk J Ps.length (fun H => Same Hs H) fun i H v H' => ∀ G, Same Gs G → Same G H → ∃ G' P, Ps[i]? = some P ∧ Gr G H G' H' ∧ P G' v
def EvIp (E : Ent) (wi : TI) (δ : List Sl) (Ps : List (Hp → V → Prop)) : Prop := ∀ σ G H (R : It → Hp → Prop), St E δ σ G H → (∀ J G2 H2, Gr G H G2 H2 → WalkP J G2 H2 Ps → R J H2) → wi σ H R
def rp (d : D) : Hp → V → Prop := fun G v => Rp G d v
theorem mon_rp (d : D) : Mon (rp d) := fun _ _ _ e h => Rp.mono e _ _ h
theorem mon_fr (E : Ent) (d : D) : Mon (fr E d) := fun _ _ _ e h => fr_mono e h
def TgP (E : Ent) (js : List Nat) (g : TG) (P : Hp → V → Prop) (δ δ' : List Sl) : Prop := ∀ σ G H (Q : L2.St → Hp → Prop) v, St E δ σ G H → P G v → (∀ σ', St E δ' σ' G H → (∀ vs : List Nat, (∀ j ∈ js, j ∈ vs) → wipe σ' vs = wipe σ vs) → Q σ' H) → g v σ H Q
section
variable {E : Ent} {δ δ' δ2 : List Sl} {ta tb te tc : TE} {tt tu : TT} {d d1 d2 : D} {Φ : Out → Prop} {u : TS} {t : TA} {K : PySem.W.Frag} {wi : TI} {g : TG}
theorem EvIc.p {xs : List D} (h : EvIc E wi δ xs) : EvIp E wi δ (xs.map rp) := fun σ G H R s k => h σ G H R s fun J G2 H2 g w => k J G2 H2 g (by
  unfold WalkP
  rw [List.length_map]
  exact Walk.mono w (fun _ h => h) fun i H v H' _ _ y G' e1 e2 => by
    obtain ⟨G3, x, h1, h2, h3⟩ := y G' e1 e2
    exact ⟨G3, rp x, by rw [List.getElem?_map, h1]; rfl, h2, h3⟩)
theorem walkP_list {A G : Hp} {a : Addr} {vs : List V} {xs : List D} (h : G a = some (.lst vs)) (r : RpA (out A G) xs vs) (Hs : Hp) (i : Same G Hs) : WalkP (Itl K a) G Hs (xs.map fun x G v => Rp (out A G) x v) := by
  have w := (walk_list (K := K) (a := a) (xs := vs)).mono (G' := fun H => Same Hs H) (Y' := fun i H v H' => ∀ G', Same G G' → Same G' H → ∃ G2 P, (xs.map fun x G v => Rp (out A G) x v)[i]? = some P ∧ Gr G' H G2 H' ∧ P G2 v) (fun H s => SqL.of (s _ _ (i _ _ h))) fun i H v H' hi s y G' e1 e2 => by
    obtain ⟨e, hv⟩ := y
    subst e
    rw [r.len] at hi
    obtain ⟨v', h1, h2⟩ := r.get (List.getElem?_eq_getElem hi)
    rw [hv] at h1; cases h1
    exact ⟨G', _, by rw [List.getElem?_map, List.getElem?_eq_getElem hi]; rfl, Gr.refl e2, Rp.mono (out_mono e1) _ _ h2⟩
  rw [r.len] at w
  unfold WalkP
  rw [List.length_map]
  exact w
/-- walking a tree that a call hands back -/
theorem ei_listN {xs : List D} (h : EvN E te δ (.list xs)) : EvIp E (iList K te) δ (xs.map (fr E)) := fun σ G H R s k => h.fr σ G H _ s fun v G1 H1 g r => by
  obtain ⟨a, vs, e, h1, h2⟩ := r
  obtain ⟨_, h1⟩ := out_some h1
  exact ⟨a, e, ⟨vs, sqL_of g.i h1⟩, k _ G1 H1 g (walkP_list (A := E.H) h1 h2 H1 g.i)⟩
theorem tgP_name {j : Nat} {x : D} : TgP E [j] (gName j) (fr E x) δ (δ.set j (nd E x)) := fun σ G H Q v s r k => k _ (s.putB j _ _ ⟨v, rfl, fun G' e => fr_mono e r⟩) fun vs h => wipe_set (h j (by simp))
theorem Tg.p {js : List Nat} {x : D} (h : Tg E js g x δ δ') : TgP E js g (rp x) δ δ' := fun σ G H Q v s r k => h σ G H Q v s r k
theorem evP_nd {i : Nat} {x : D} (h : δ[i]? = some (nd E x)) : EvP E (tVar i) δ (fr E x) := fun σ G H Q s k => by
  obtain ⟨o, ho⟩ := s.here h
  obtain ⟨F, q⟩ := s.rg
  obtain ⟨v, e, r⟩ := q.sl i _ o h ho
  subst e
  exact ⟨v, ho, k v G H (Gr.refl s.i) (r G (Same.refl G))⟩
theorem fr_rp {G : Hp} {v : V} {x : D} (h : fr E x G v) : Rp G x v := Rp.mono out_in _ _ h
theorem ev_nd {i : Nat} {x : D} (h : δ[i]? = some (nd E x)) : Ev E (tVar i) δ x := fun σ G H Q s k => evP_nd h σ G H Q s fun v G2 H2 g r => k v G2 H2 g (fr_rp r)
theorem evP_tup2 {x y : D} (ha : EvP E ta δ (fr E x)) (hb : EvP E tb δ (fr E y)) : EvP E (tTup (tCons ta (tCons tb tNil))) δ (fr E (.tuple [x, y])) := fun σ G H Q s k => by
  refine ha σ G H _ s fun v G1 H1 g1 r1 => hb σ G1 H1 _ (s.grow g1) fun w G2 H2 g2 r2 => ?_
  refine ⟨by show 2 ≤ sizeLine; decide, fun p hp => ?_⟩
  have g12 := g1.trans g2
  refine k _ (upd G2 p (.tup [v, w])) _ (g12.trans (Gr.new g2.i hp)) ?_
  have sg : Same G2 (upd G2 p (.tup [v, w])) := same_new (g2.i.free hp)
  have ep : E.H p = none := (s.h.trans g12.h).free hp
  exact ⟨p, [v, w], rfl, by rw [out_none ep]; exact upd_same, v, [w], rfl, Rp.mono (out_mono ((g2.g).trans sg)) _ _ r1, w, [], rfl, Rp.mono (out_mono sg) _ _ r2, rfl⟩
theorem evL_lc {α : Type} (ls : List α) (enc : α → Hp → V → Prop) (c : α → Bool) (val : α → Hp → V → Prop) (mon : ∀ a, Mon (val a)) {vs : List Nat} (hi : EvIp E wi δ (ls.map enc)) (hz : ls.length ≤ 100000)
    (turn : ∀ a, a ∈ ls → ∃ js δ2, (∀ j ∈ js, j ∈ vs) ∧ TgP E js g (enc a) (wipeS δ vs) δ2 ∧ Et E tt δ2 (c a) ∧ (c a = true → EvP E te δ2 (val a))) : EvL E (tLc wi g tt te vs) δ ((ls.filter c).map val) := fun σ G H Q s k => hi σ G H _ s fun J G1 H1 g1 w => by
  intro Dl hD
  have s1 := s.grow g1
  have lenw : (ls.map enc).length = ls.length := List.length_map _
  have gD : G1 Dl = none := g1.i.free hD
  have mm : ∀ l : List α, ∀ P ∈ l.map val, Mon P := fun l P hP => by
    obtain ⟨a, _, rfl⟩ := List.mem_map.mp hP
    exact mon a
  refine lc_it w (fun i H' => ∃ G' acc, Same G1 G' ∧ Same H1 H' ∧ Same G' H' ∧ (∀ a, H1 a ≠ none → G1 a = none → G' a = none) ∧ G' Dl = none ∧ H' Dl = some (.lst acc) ∧ Par G' (((ls.take i).filter c).map val) acc) ⟨G1, [], Same.refl _, same_new hD, same_mut g1.i gD, fun _ _ h => h, gD, upd_same, rfl⟩ (fun i H' _ ⟨G', acc, e, eh, i', _⟩ => eh) (fun i v H' H2 hi' ⟨G', acc, e, eh, i', n', gd, hd, r⟩ y => ?_) (fun H' ⟨G', acc, e, eh, i', n', gd, hd, r⟩ => ?_)
  · obtain ⟨G2, x, hx, g2, rx⟩ := y G' e i'
    rw [lenw] at hi'
    have hx2 : x = enc ls[i] := by
      rw [List.getElem?_map, List.getElem?_eq_getElem hi'] at hx
      exact (Option.some.inj hx).symm
    subst hx2
    obtain ⟨js, δ2, hj, tg, test, elt⟩ := turn ls[i] (List.getElem_mem hi')
    have gr2 : Gr G1 H1 G2 H2 := (⟨e, eh, n', i'⟩ : Gr G1 H1 G' H').trans g2
    have s2 := (s1.grow gr2).wiped vs
    have tk : ls.take (i + 1) = ls.take i ++ [ls[i]] := by rw [List.take_succ, List.getElem?_eq_getElem hi']; rfl
    have hd2 : H2 Dl = some (.lst acc) := g2.h _ _ hd
    have gd2 : G2 Dl = none := g2.n Dl (by rw [hd]; simp) gd
    refine tg _ G2 H2 _ v s2 rx fun σ3 s3 wp => ⟨by rw [wp vs hj, wipe_wipe], test σ3 G2 H2 _ s3 fun G3 H3 g3 => ?_⟩
    have gr3 := gr2.trans g3
    have hd3 : H3 Dl = some (.lst acc) := g3.h _ _ hd2
    have gd3 : G3 Dl = none := g3.n Dl (by rw [hd2]; simp) gd2
    cases hc : c ls[i] with
    | true =>
      rw [if_pos rfl]
      refine elt hc σ3 G3 H3 _ (s3.grow g3) fun z G4 H4 g4 rz => ?_
      have gr4 := gr3.trans g4
      have hd4 : H4 Dl = some (.lst acc) := g4.h _ _ hd3
      have gd4 : G4 Dl = none := g4.n Dl (by rw [hd3]; simp) gd3
      have racc : Par G4 (((ls.take i).filter c).map val) acc := Par.mono ((g2.g.trans g3.g).trans g4.g) (mm _) r
      refine ⟨acc, hd4, ?_, G4, acc ++ [z], gr4.g, same_mut gr4.h hD, same_mut gr4.i gd4, gr4.n, gd4, upd_same, ?_⟩
      · rw [racc.len, List.length_map]
        have h1 := List.length_filter_le c (ls.take i)
        have h2 := List.length_take_le i ls
        have h3 : (100000 : Nat) < sizeLine := by decide
        have h4 : (ls.take i).length ≤ ls.length := by rw [List.length_take]; omega
        omega
      · rw [tk, List.filter_append, List.map_append]
        have e1 : List.filter c [ls[i]] = [ls[i]] := by simp [hc]
        rw [e1]
        exact racc.snoc rz
    | false =>
      rw [if_neg Bool.false_ne_true]
      refine ⟨G3, acc, gr3.g, gr3.h, gr3.i, gr3.n, gd3, hd3, ?_⟩
      rw [tk, List.filter_append, List.map_append]
      have e1 : List.filter c [ls[i]] = [] := by simp [hc]
      rw [e1]
      simpa using Par.mono (g2.g.trans g3.g) (mm _) r
  · rw [lenw, List.take_length] at r
    exact k Dl acc G' H' ⟨g1.g.trans e, g1.h.trans eh, fun a ha ga => n' a (fun z => by
      cases q : H a with
      | none => exact ha q
      | some o => rw [g1.h a o q] at z; cases z) (g1.n a ha ga), i'⟩ (g1.h.free hD) gd hd r
theorem evL_map {α : Type} (ls : List α) (enc : α → Hp → V → Prop) (val : α → Hp → V → Prop) (mon : ∀ a, Mon (val a)) {vs : List Nat} (hi : EvIp E wi δ (ls.map enc)) (hz : ls.length ≤ 100000)
    (turn : ∀ a, a ∈ ls → ∃ js δ2, (∀ j ∈ js, j ∈ vs) ∧ TgP E js g (enc a) (wipeS δ vs) δ2 ∧ EvP E te δ2 (val a)) : EvL E (tLc wi g tYes te vs) δ (ls.map val) := by
  have h := evL_lc (tt := tYes) ls enc (fun _ => true) val mon hi hz fun a ha => by
    obtain ⟨js, δ2, h1, h2, h3⟩ := turn a ha
    exact ⟨js, δ2, h1, h2, et_yes, fun _ => h3⟩
  have e : ls.filter (fun _ => true) = ls := by simp
  rw [e] at h
  exact h

/-! ### sorted(lists of ints) -/
def intsOf : List V → List Int
  | [] => []
  | .int i :: vs => i :: intsOf vs
  | _ :: vs => intsOf vs
theorem intsOf_map : ∀ ns : List Int, intsOf (ns.map V.int) = ns
  | [] => rfl
  | n :: ns => by show n :: intsOf (ns.map V.int) = _; rw [intsOf_map ns]
def atK (G : Hp) (t : Addr) : List Int := match G t with
  | some (.lst vs) => intsOf vs
  | _ => []
theorem rp_ints {G : Hp} {ns : List Int} {v : V} (h : Rp G (intsL ns) v) : ∃ t, v = .ref t ∧ G t = some (.lst (ns.map V.int)) := by
  obtain ⟨a, vs, e, h1, h2⟩ := h
  have := RpA.of_ints h2
  subst this
  exact ⟨a, e, h1⟩
theorem par_ints {G : Hp} : ∀ {gss : List (List Int)} {vs : List V}, Par G (gss.map fun g => fr E (intsL g)) vs → ∃ ts : List Addr, vs = ts.map V.ref ∧ ts.map (atK G) = gss ∧ ∀ t ∈ ts, E.H t = none ∧ G t = some (.lst ((atK G t).map V.int))
  | [], _, h => ⟨[], h, rfl, fun _ z => absurd z (by simp)⟩
  | g :: gss, _, ⟨v, r, h1, h2, h3⟩ => by
    obtain ⟨t, e, h4⟩ := rp_ints h2
    obtain ⟨h5, h6⟩ := out_some h4
    obtain ⟨ts, e2, e3, h7⟩ := par_ints h3
    subst e e2
    have ek : atK G t = g := by unfold atK; rw [h6]; exact intsOf_map g
    refine ⟨t :: ts, h1, by rw [List.map_cons, ek, e3], fun t' ht => ?_⟩
    rcases List.mem_cons.mp ht with e | e
    · subst e; rw [ek]; exact ⟨h5, h6⟩
    · exact h7 t' e
theorem ints_par {G : Hp} : ∀ {ts : List Addr}, (∀ t ∈ ts, E.H t = none ∧ G t = some (.lst ((atK G t).map V.int))) → Par G ((ts.map (atK G)).map fun g => fr E (intsL g)) (ts.map V.ref)
  | [], _ => rfl
  | t :: ts, h => by
    have z := h t List.mem_cons_self
    refine ⟨.ref t, _, rfl, ⟨t, _, rfl, ?_, RpA.ints _⟩, ints_par fun t' ht => h t' (List.mem_cons_of_mem _ ht)⟩
    rw [out_none z.1]; exact z.2
theorem evL_sortedL {gss gss0 : List (List Int)} (ha : EvL E ta δ (gss.map fun g => fr E (intsL g))) (hu : ∀ l : List (List Int), l.Perm gss → l.Pairwise (fun p q => HT.lexLt q p = false) → l = gss0) :
    EvL E (tCB (rSortedL E.K) (tCons ta tNil)) δ (gss0.map fun g => fr E (intsL g)) := fun σ G H Q s k => by
  refine ha σ G H _ s fun p vs G1 H1 g hp gp h1 r => ?_
  obtain ⟨ts, e, e2, h2⟩ := par_ints r
  subst e
  refine ⟨p, ts, atK G1, rfl, SqL.of h1, fun t ht => g.i _ _ (h2 t ht).2, fun ts' q pm pw hq => ?_⟩
  have h3 : ∀ t ∈ ts', E.H t = none ∧ G1 t = some (.lst ((atK G1 t).map V.int)) := fun t ht => h2 t (pm.mem_iff.mp ht)
  have e3 : ts'.map (atK G1) = gss0 := hu _ (by rw [← e2]; exact pm.map _) (List.pairwise_map.mpr pw)
  refine k q _ G1 _ (g.trans (Gr.side g.i (same_new hq))) (g.h.free hq) (g.i.free hq) upd_same ?_
  rw [← e3]
  exact ints_par h3

/-! ### own dicts, own lists -/
def mrgD (kvs more : List (Key × D)) : List (Key × D) := more.foldl (fun acc kv => PL.putD acc kv.1 kv.2) kvs
theorem RpK.merge {G : Hp} : ∀ {more : List (Key × D)} {ms : List (Key × V)} {kvs : List (Key × D)} {ks : List (Key × V)}, RpK G more ms → RpK G kvs ks → RpK G (mrgD kvs more) (mergeK ks ms)
  | [], _, _, _, h, r => by cases h; exact r
  | (k, d) :: more, _, kvs, ks, ⟨v, t, h1, h2, h3⟩, r => by
    subst h1
    exact RpK.merge (kvs := PL.putD kvs k d) (ks := putK ks k v) h3 (r.put k h2)
theorem evM_dupd {n : Nat} {kvs more : List (Key × D)} (h0 : δ[n]? = some (.od kvs)) (ha : Ev E ta δ (dictD more)) (hz : kvs.length + more.length ≤ 100000) : EvM E (tDUpd E.K (tVar n) ta) δ (δ.set n (.od (mrgD kvs more))) .none := fun σ G H Q s k => by
  obtain ⟨p, ks, ho, h1, h2, h3, h4⟩ := s.atOd h0
  refine ⟨.ref p, ho, p, rfl, .inl ⟨ks, .inl h1⟩, ha σ G H _ s fun v G2 H2 g r => ?_⟩
  have s2 := s.grow g
  obtain ⟨b, ms, e, h5, h6⟩ := rp_dict r
  subst e
  have gp : G2 p = none := g.n p (by rw [h1]; simp) h3
  have h2' := h2.mono g.g
  exact ⟨b, ks, ms, rfl, (fun e => by rw [e, h5] at gp; cases gp), g.h _ _ h1, .inl (g.i _ _ h5), by rw [h2'.len, h6.len]; exact Nat.le_trans hz (by decide), k _ G2 _ g.g (s2.mutateD h0 ho (h6.merge h2')) rfl⟩
theorem first_ix (x : Int) : ∀ ns : List Int, x ∈ ns → ∃ j, ns[j]? = some x ∧ (∀ m, m < j → ns[m]? ≠ some x) ∧ ns.eraseIdx j = ns.erase x
  | [], h => absurd h (by simp)
  | n :: ns, h => by
    by_cases e : n = x
    · subst e
      exact ⟨0, rfl, fun m hm => absurd hm (Nat.not_lt_zero _), by simp⟩
    · rcases List.mem_cons.mp h with z | z
      · exact absurd z.symm e
      · obtain ⟨j, h1, h2, h3⟩ := first_ix x ns z
        refine ⟨j + 1, h1, fun m hm => ?_, ?_⟩
        · cases m with
          | zero => simpa using e
          | succ m => exact h2 m (by omega)
        · rw [List.eraseIdx_cons_succ, h3, List.erase_cons_tail (by simpa using e)]
theorem evM_remove {n : Nat} {ns : List Int} {x : Int} (h0 : δ[n]? = some (.ow (ns.map .int))) (ha : Ev E ta δ (.int x)) (hx : x ∈ ns) : EvM E (tBM E.K "list" rRemI (tVar n) (tCons ta tNil)) δ (δ.set n (.ow ((ns.erase x).map .int))) .none := fun σ G H Q s k => by
  obtain ⟨p, vs, ho, h1, h2, h3, h4⟩ := s.atOw h0
  have e := RpA.of_ints h2
  subst e
  refine ⟨.ref p, ho, .inl ⟨rfl, _, SqL.of h1⟩, ha σ G H _ s fun v G2 H2 g r => ?_⟩
  have s2 := s.grow g
  have r : v = .int x := r
  subst r
  obtain ⟨j, q1, q2, q3⟩ := first_ix x ns hx
  refine ⟨p, ns, x, j, rfl, rfl, g.h _ _ h1, q1, q2, ?_⟩
  rw [q3]
  exact k _ G2 _ g.g (s2.mutate h0 ho (RpA.ints _)) rfl
/-- [e], e changing own lists -/
theorem evM_lst1 (h : EvM E te δ δ' d) : EvM E (tLst (tCons te tNil)) δ δ' (.list [d]) := fun σ G H Q s k => h σ G H _ s fun v G1 H1 g s1 r => by
  refine ⟨by show 1 ≤ sizeLine; decide, fun p hp => ?_⟩
  have gr : Gr G1 H1 (upd G1 p (.lst [v])) (upd H1 p (.lst [v])) := Gr.new s1.i hp
  exact k _ _ _ (g.trans gr.g) (s1.grow gr) ⟨p, [v], rfl, upd_same, v, [], rfl, Rp.mono gr.g _ _ r, rfl⟩

/-! ### loops over own trees -/
def TgV (E : Ent) (g : TG) (x : V) (δ δ' : List Sl) : Prop := ∀ σ G H (Q : L2.St → Hp → Prop), St E δ σ G H → (∀ σ', St E δ' σ' G H → Q σ' H) → g x σ H Q
theorem tgV_name {j : Nat} {x : V} : TgV E (gName j) x δ (δ.set j (.v x)) := fun σ G H Q s k => k _ (s.putB j _ _ rfl)
/-- i, j = x, where x is a pair somewhere in slot n's region -/
theorem tgV_two {i j m n : Nat} {q : Addr} {x y : V} {P : Hp → V → Prop} (hn : δ[n]? = some (.ob fun _ F v => P F v)) (h : ∀ F v, P F v → F q = some (.tup [x, y])) (hm : 2 = m := by rfl) : TgV E (gTup K m (gCons (gName i) (gCons (gName j) gNil))) (.ref q) δ ((δ.set i (.v x)).set j (.v y)) := fun σ G H Q s k => by
  obtain ⟨o, ho⟩ := s.here hn
  obtain ⟨F, r⟩ := s.rg
  obtain ⟨v, e, p⟩ := r.sl n _ o hn ho
  have hq := r.in_ n q _ (h _ _ (p G (Same.refl G)))
  exact ⟨q, [x, y], rfl, SqT.of hq, hm, x, [y], rfl, y, [], rfl, rfl, k _ ((s.putB i (.v x) (some x) rfl).putB j (.v y) (some y) rfl)⟩
theorem xs_forIn {i : Nat} {p : Addr} {vs : List V} {tb : TS} (Inv : Nat → List Sl → Prop) (h0 : Inv 0 δ)
    (top : ∀ k δ', Inv k δ' → ∃ P : Hp → V → Prop, δ'[i]? = some (.ob fun _ F v => P F v) ∧ ∀ F v, P F v → v = .ref p ∧ F p = some (.lst vs))
    (turn : ∀ k x δ', vs[k]? = some x → Inv k δ' → ∃ δ2, TgV E g x δ' δ2 ∧ Xs E tb δ2 (TurnO (Inv (k + 1)) Φ)) (done : ∀ δ', Inv vs.length δ' → Φ (.nx δ')) : Xs E (tFor (iList K (tVar i)) g tb) δ Φ := fun σ G H X s P => by
  have top2 : ∀ {k δ' σ' G' H'}, Inv k δ' → St E δ' σ' G' H' → σ'[i]? = some (some (.ref p)) ∧ H' p = some (.lst vs) := by
    intro k δ' σ' G' H' inv s'
    obtain ⟨Q, h1, h2⟩ := top k δ' inv
    obtain ⟨o, ho⟩ := s'.here h1
    obtain ⟨F, q⟩ := s'.rg
    obtain ⟨v, e, hs⟩ := q.sl i _ o h1 ho
    subst e
    obtain ⟨e1, e2⟩ := h2 _ _ (hs G' (Same.refl G'))
    subst e1
    exact ⟨ho, q.in_ i _ _ e2⟩
  obtain ⟨t1, t2⟩ := top2 h0 s
  refine ⟨.ref p, t1, p, rfl, ⟨vs, SqL.of t2⟩, ?_⟩
  refine for_it (walk_list (K := K) (a := p) (xs := vs)) (fun k σ' H' => ∃ δ' G', Same G G' ∧ Inv k δ' ∧ St E δ' σ' G' H') ⟨δ, G, Same.refl _, h0, s⟩ (fun k σ' H' _ ⟨δ', G', e, inv, s'⟩ => SqL.of (top2 inv s').2) (fun k v σ' H' H2 hi' ⟨δ', G', e, inv, s'⟩ y => ?_) (fun σ' H' ⟨δ', G', e, inv, s'⟩ => P _ (done δ' inv) σ' G' H' e s')
  obtain ⟨e2, hv⟩ := y
  subst e2
  obtain ⟨δ2, tg, body⟩ := turn k v δ' hv inv
  refine tg σ' G' _ _ s' fun σ3 s3 => body σ3 G' _ _ s3 fun o q => ?_
  cases o with
  | nx δ3 => exact fun σ4 G4 H4 e4 s4 => ⟨δ3, G4, e.trans e4, q, s4⟩
  | ct δ3 => exact fun σ4 G4 H4 e4 s4 => ⟨δ3, G4, e.trans e4, q, s4⟩
  | bk δ3 => exact (P _ q).mono (G := G) e
  | rt d => exact P _ q
  | rl d => exact P _ q
  | rk d => exact P _ q
  | rf d => exact P _ q
  | rm _ _ => exact (P _ q).mono (G := G) e
/-- an append to the very list of slot i -/
theorem evM_appendTop {i : Nat} {a : Addr} {P P' : Hp → V → Prop} (hi : δ[i]? = some (.ob fun _ F v => P F v)) (ha : Ev E ta δ d)
    (at_ : ∀ F v, P F v → v = .ref a ∧ ∃ us, F a = some (.lst us) ∧ us.length < 100000) :
    EvM E (tBM E.K "list" rAppend (tVar i) (tCons ta tNil)) δ (δ.set i .no) .none := fun σ G H Q s k => by
  have hh : ∀ {G H : Hp}, St E δ σ G H → σ[i]? = some (some (.ref a)) ∧ ∃ us, H a = some (.lst us) ∧ us.length < 100000 := by
    intro G H s
    obtain ⟨o, ho⟩ := s.here hi
    obtain ⟨F, q⟩ := s.rg
    obtain ⟨v, e, hs⟩ := q.sl i _ o hi ho
    subst e
    obtain ⟨e, us, h1, h2⟩ := at_ _ _ (hs G (Same.refl G))
    subst e
    exact ⟨ho, us, q.in_ i a _ h1, h2⟩
  obtain ⟨h0, us, h1, _⟩ := hh s
  refine ⟨.ref a, h0, .inl ⟨rfl, _, SqL.of h1⟩, ha σ G H _ s fun v G2 H2 g rv => ?_⟩
  have s2 := s.grow g
  obtain ⟨h0', us2, h3, h4⟩ := hh s2
  have st : St E (δ.set i .no) σ G2 (upd H2 a (.lst (us2 ++ [v]))) := St.change (p := a) s2 _ hi h0' (fun F q => by
    obtain ⟨v, e, hs⟩ := q
    obtain ⟨e2, us, h1, h2⟩ := at_ _ _ (hs G2 (Same.refl G2))
    rw [h1]; simp) fun _ _ => trivial
  exact ⟨a, us2, v, rfl, rfl, h3, Nat.lt_of_lt_of_le h4 (by decide), k _ G2 _ g.g st rfl⟩
end
end PL

/-! PNest: own lists of own lists; extend; a call that is known by a property only. -/
namespace PL
open PySem L2
def NestR (G F : Hp) : List Addr → List (List D) → Prop
  | [], [] => True
  | t :: ts, xs :: xss => (∃ vs, F t = some (.lst vs) ∧ RpA G xs vs) ∧ NestR G F ts xss
  | _, _ => False
theorem NestR.len {G F : Hp} : ∀ {ts : List Addr} {xss : List (List D)}, NestR G F ts xss → ts.length = xss.length
  | [], [], _ => rfl
  | _ :: _, _ :: _, ⟨_, h⟩ => by simp [NestR.len h]
  | [], _ :: _, h => nomatch h
  | _ :: _, [], h => nomatch h
theorem NestR.mono {G G2 F F2 : Hp} (e : Same G G2) : ∀ {ts : List Addr} {xss : List (List D)}, (∀ t ∈ ts, F2 t = F t) → NestR G F ts xss → NestR G2 F2 ts xss
  | [], [], _, _ => trivial
  | t :: ts, xs :: xss, k, ⟨⟨vs, h1, h2⟩, h⟩ => ⟨⟨vs, by rw [k t List.mem_cons_self]; exact h1, RpA.mono e _ _ h2⟩, NestR.mono e (fun u hu => k u (List.mem_cons_of_mem _ hu)) h⟩
  | [], _ :: _, _, h => nomatch h
  | _ :: _, [], _, h => nomatch h
theorem NestR.snoc {G F : Hp} {t : Addr} {xs : List D} (k : ∃ vs, F t = some (.lst vs) ∧ RpA G xs vs) : ∀ {ts : List Addr} {xss : List (List D)}, NestR G F ts xss → NestR G F (ts ++ [t]) (xss ++ [xs])
  | [], [], _ => ⟨k, trivial⟩
  | _ :: _, _ :: _, ⟨h1, h⟩ => ⟨h1, NestR.snoc k h⟩
  | [], _ :: _, h => nomatch h
  | _ :: _, [], h => nomatch h
theorem NestR.get {G F : Hp} : ∀ {ts : List Addr} {xss : List (List D)} {j : Nat} {xs : List D}, NestR G F ts xss → xss[j]? = some xs → ∃ t vs, ts[j]? = some t ∧ F t = some (.lst vs) ∧ RpA G xs vs
  | [], [], _, _, _, e => by simp at e
  | t :: ts, ys :: xss, 0, xs, ⟨⟨vs, h1, h2⟩, h⟩, e => by
    have e : ys = xs := by simpa using e
    subst e
    exact ⟨t, vs, rfl, h1, h2⟩
  | t :: ts, ys :: xss, j + 1, xs, ⟨_, h⟩, e => by
    obtain ⟨u, vs, a, b, c⟩ := NestR.get (j := j) h (by simpa using e)
    exact ⟨u, vs, by simpa using a, b, c⟩
  | [], _ :: _, _, _, h, _ => nomatch h
  | _ :: _, [], _, _, h, _ => nomatch h
theorem NestR.set {G F : Hp} {t : Addr} {ws : List V} {ys : List D} (rw_ : RpA G ys ws) : ∀ {ts : List Addr} {xss : List (List D)} {j : Nat}, ts.Nodup → NestR G F ts xss → ts[j]? = some t → NestR G (upd F t (.lst ws)) ts (xss.set j ys)
  | [], [], _, _, _, e => by simp at e
  | u :: ts, xs :: xss, 0, nd, ⟨h1, h⟩, e => by
    have e : u = t := by simpa using e
    subst e
    obtain ⟨n1, n2⟩ := List.nodup_cons.mp nd
    exact ⟨⟨ws, upd_same, rw_⟩, NestR.mono (Same.refl _) (fun v hv => upd_ne fun e => n1 (by rw [← e]; exact hv)) h⟩
  | u :: ts, xs :: xss, j + 1, nd, ⟨⟨vs, h1, h2⟩, h⟩, e => by
    obtain ⟨n1, n2⟩ := List.nodup_cons.mp nd
    have e : ts[j]? = some t := by simpa using e
    have ne : u ≠ t := fun z => n1 (by rw [z]; exact List.mem_of_getElem? e)
    exact ⟨⟨vs, by rw [upd_ne ne]; exact h1, h2⟩, NestR.set rw_ n2 h e⟩
  | [], _ :: _, _, _, h, _ => nomatch h
  | _ :: _, [], _, _, h, _ => nomatch h
def NestP (xss : List (List D)) : Hp → Hp → V → Prop := fun G F v => ∃ p ts, v = .ref p ∧ F p = some (.lst (ts.map V.ref)) ∧ (p :: ts).Nodup ∧ NestR G F ts xss
/-- an own list of own lists -/
def nest (xss : List (List D)) : Sl := .ob (NestP xss)
theorem nest_mono {xss : List (List D)} {G G2 F : Hp} {v : V} (e : Same G G2) (h : NestP xss G F v) : NestP xss G2 F v := by
  obtain ⟨p, ts, h1, h2, h3, h4⟩ := h
  exact ⟨p, ts, h1, h2, h3, h4.mono e fun _ _ => rfl⟩
section
variable {E : Ent} {δ δ' : List Sl} {ta tb te tc : TE} {tt : TT} {d x y : D} {Φ : Out → Prop} {u : TS} {t : TA}
/-- an own thing lent -/
theorem St.shareG {σ : L2.St} {G H : Hp} {i : Nat} {P : Hp → Hp → V → Prop} (s : St E δ σ G H) (h : δ[i]? = some (.ob P)) (hp : ∀ F v, P G F v → (∀ a, F a ≠ none → G a = none) → Rp (jn G F) d v) :
    ∃ F, Same F H ∧ (∀ a, F a ≠ none → G a = none ∧ E.H a = none) ∧ St E (δ.set i (.d d)) σ (jn G F) H := by
  obtain ⟨o, ho⟩ := s.here h
  obtain ⟨F, q⟩ := s.rg
  obtain ⟨v, e, r⟩ := q.sl i _ o h ho
  have r := hp _ _ (r G (Same.refl G)) fun a ha => (q.out i a ha).1
  subst e
  have sg : Same G (jn G (F i)) := jn_l
  refine ⟨F i, q.in_ i, q.out i, s.g.trans sg, s.h, fun a ha ga => jn_none (s.n a ha ga) ?_, jn_in s.i (q.in_ i), by simp [s.len], fun j => if j = i then none0 else F j, ?_⟩
  · cases e : F i a with
    | none => rfl
    | some o => exact absurd (q.out i a (by rw [e]; simp)).2 ha
  · refine ⟨fun j => ?_, fun j a hf => ?_, fun j k a ne hf => ?_, fun j t o q1 q2 => ?_⟩
    · by_cases e : j = i
      · simp only [e, if_true]; exact fun _ _ y => nomatch y
      · simp only [e, if_false]; exact q.in_ j
    · by_cases e : j = i
      · simp only [e, if_true] at hf; exact absurd rfl hf
      · simp only [e, if_false] at hf
        have y := q.out j a hf
        exact ⟨jn_none y.1 (q.ap j i a e hf), y.2⟩
    · by_cases e : j = i
      · simp only [e, if_true] at hf; exact absurd rfl hf
      · simp only [e, if_false] at hf
        by_cases e2 : k = i
        · simp only [e2, if_true]; rfl
        · simp only [e2, if_false]; exact q.ap j k a ne hf
    · by_cases e : j = i
      · subst e
        simp only [if_true]
        rw [List.getElem?_set] at q1
        simp only [if_true] at q1
        split at q1
        · cases q1
          rw [ho] at q2; cases q2
          exact ⟨v, rfl, r⟩
        · cases q1
      · simp only [e, if_false]
        rw [List.getElem?_set_ne (Ne.symm e)] at q1
        exact (q.sl j t o q1 q2).mono sg
theorem nest_rp {xss : List (List D)} {G F : Hp} {v : V} (h : NestP xss G F v) (off : ∀ a, F a ≠ none → G a = none) : Rp (jn G F) (.list (xss.map .list)) v := by
  obtain ⟨p, ts, e, h1, _, h3⟩ := h
  have rr := jn_r off
  refine ⟨p, _, e, rr _ _ h1, ?_⟩
  clear h1 e
  have : ∀ {ts : List Addr} {xss : List (List D)}, NestR G F ts xss → RpA (jn G F) (xss.map .list) (ts.map V.ref) := by
    intro ts
    induction ts with
    | nil =>
      intro xss h
      cases xss with
      | nil => rfl
      | cons _ _ => exact h.elim
    | cons t ts ih =>
      intro xss h
      cases xss with
      | nil => exact h.elim
      | cons xs xss =>
        obtain ⟨⟨vs, a, b⟩, c⟩ := h
        exact ⟨_, _, rfl, ⟨t, vs, rfl, rr _ _ a, RpA.mono jn_l _ _ b⟩, ih c⟩
  exact this h3
theorem Et.lendM {b : Bool} {i : Nat} {xss : List (List D)} (o : δ[i]? = some (nest xss)) (h : Et E tt (δ.set i (.d (.list (xss.map .list)))) b) : Et E tt δ b := fun σ G H Q s k => by
  obtain ⟨F, _, _, s'⟩ := s.shareG o fun F v p off => nest_rp p off
  exact h σ _ H Q s' fun G2 H2 g => k G H2 (Gr.side s.i g.h)
theorem Ev.lendM {i : Nat} {xss : List (List D)} (o : δ[i]? = some (nest xss)) (h : Ev E te (δ.set i (.d (.list (xss.map .list)))) d) (hs : scalD d = true) : Ev E te δ d := fun σ G H Q s k => by
  obtain ⟨F, _, _, s'⟩ := s.shareG o fun F v p off => nest_rp p off
  exact h σ _ H Q s' fun v G2 H2 g r => k v G H2 (Gr.side s.i g.h) (scal_rp hs r)
theorem xs_shareM {i : Nat} {xss : List (List D)} (o : δ[i]? = some (nest xss)) (h : Xs E u (δ.set i (.d (.list (xss.map .list)))) Φ) : Xs E u δ Φ := fun σ G H X s p => by
  obtain ⟨F, _, _, s'⟩ := s.shareG o fun F v p off => nest_rp p off
  exact h σ _ H X s' fun o q => (p o q).mono jn_l
/-- xs = [] -/
theorem xs_asgNest {i : Nat} (k : Φ (.nx (δ.set i (nest [])))) : Xs E (tAsg (tLst tNil) (gName i)) δ Φ := fun σ G H X s p => evF_lst (E := E) ed_nil (by decide) σ G H _ s fun q vs G1 H1 g hq gq h2 r => by
  cases r
  have e : Same (sing q (.lst [])) H1 := sing_in h2
  refine p _ k _ G1 H1 g.g (s.put g i (nest []) (some (.ref q)) (sing q (.lst [])) e (fun a ha => ?_) ⟨_, rfl, fun G' _ => ⟨q, [], rfl, sing_self, by simp, trivial⟩⟩)
  have := sing_ne ha
  subst this
  exact ⟨hq, gq⟩
theorem q_asgNest {i : Nat} (k : Xs E u (δ.set i (nest [])) Φ) : Xs E (tSeq (tAsg (tLst tNil) (gName i)) u) δ Φ := xs_seq (xs_asgNest k)
/-- the slot's region, opened -/
theorem St.atNest {σ : L2.St} {G H : Hp} {i : Nat} {xss : List (List D)} (s : St E δ σ G H) (h0 : δ[i]? = some (nest xss)) : ∃ p ts F, σ[i]? = some (some (.ref p)) ∧ Reg E δ σ G H F ∧ F i p = some (.lst (ts.map V.ref)) ∧ (p :: ts).Nodup ∧ NestR G (F i) ts xss := by
  obtain ⟨o, ho⟩ := s.here h0
  obtain ⟨F, q⟩ := s.rg
  obtain ⟨v, e, hs⟩ := q.sl i _ o h0 ho
  subst e
  obtain ⟨p, ts, e, h1, h2, h3⟩ := hs G (Same.refl G)
  subst e
  exact ⟨p, ts, F, ho, q, h1, h2, h3⟩
/-- xs.append([..]) -/
theorem evM_nestPush {i : Nat} {xss : List (List D)} {xs : List D} (h0 : δ[i]? = some (nest xss)) (ha : EvF E te δ xs) (hz : xss.length < 100000) : EvM E (tBM E.K "list" rAppend (tVar i) (tCons te tNil)) δ (δ.set i (nest (xss ++ [xs]))) .none := fun σ G H Q s k => by
  obtain ⟨p, ts, F, ho, q, h1, h3, h4⟩ := s.atNest h0
  have hp := q.in_ i _ _ h1
  refine ⟨.ref p, ho, .inl ⟨rfl, _, SqL.of hp⟩, ha σ G H _ s fun a vs G2 H2 g hpn gpn h2 r => ?_⟩
  have hp2 := g.h _ _ hp
  have hap : a ≠ p := fun e => by rw [e, hp] at hpn; cases hpn
  have hFa : F i a = none := by
    cases e : F i a with
    | none => rfl
    | some o => rw [q.in_ i _ _ e] at hpn; cases hpn
  have z := q.out i p (by rw [h1]; simp)
  have gp2 : G2 p = none := g.n p (by rw [hp]; simp) z.1
  have hat : ¬ a ∈ p :: ts := fun c => by
    rcases List.mem_cons.mp c with c | c
    · exact hap c
    · obtain ⟨j, hj⟩ := List.mem_iff_getElem?.mp c
      have hjl : j < xss.length := by rw [← h4.len]; exact (List.getElem?_eq_some_iff.mp hj).1
      obtain ⟨t, ws, k1, k2, _⟩ := h4.get (List.getElem?_eq_getElem hjl)
      rw [hj] at k1; cases k1
      rw [hFa] at k2; cases k2
  refine ⟨p, ts.map V.ref, .ref a, rfl, rfl, hp2, by rw [List.length_map, h4.len]; exact Nat.lt_of_lt_of_le hz (by decide), ?_⟩
  have i3 : Same G2 (upd H2 p (.lst (ts.map V.ref ++ [V.ref a]))) := same_mut g.i gp2
  have := q.step s.i i (nest (xss ++ [xs])) (some (.ref p)) (upd (upd (F i) a (.lst vs)) p (.lst (ts.map V.ref ++ [V.ref a]))) g.g i3 g.n (fun b o hb hf => by
    have ne : b ≠ p := fun e => by rw [e, h1] at hf; cases hf
    rw [upd_ne ne]; exact g.h b o hb) (fun b o hb => by
    by_cases e : b = p
    · subst e; rw [upd_same] at hb ⊢; exact hb
    · rw [upd_ne e] at hb ⊢
      by_cases e2 : b = a
      · subst e2; rw [upd_same] at hb; cases hb; exact h2
      · rw [upd_ne e2] at hb; exact g.h _ _ (q.in_ i b o hb)) (fun b hb => by
    by_cases e : b = p
    · subst e; exact ⟨gp2, z.2⟩
    · rw [upd_ne e] at hb
      by_cases e2 : b = a
      · subst e2; exact ⟨gpn, s.h.free hpn⟩
      · rw [upd_ne e2] at hb
        have y := q.out i b hb
        exact ⟨g.n b (not_none (q.in_ i) hb) y.1, y.2⟩) (fun b hb => by
    by_cases e : b = p
    · subst e; exact .inl (by rw [h1]; simp)
    · rw [upd_ne e] at hb
      by_cases e2 : b = a
      · subst e2; exact .inr hpn
      · rw [upd_ne e2] at hb; exact .inl hb) ⟨.ref p, rfl, fun G' eg => ⟨p, ts ++ [a], rfl, by rw [upd_same, List.map_append]; rfl, by
        rw [← List.cons_append, List.nodup_append]
        exact ⟨h3, by simp, fun x hx y hy e => hat (by rw [List.mem_singleton] at hy; rw [← hy, ← e]; exact hx)⟩, ?_⟩⟩
  · rw [set_get ho] at this
    exact k _ G2 _ g.g ⟨s.g.trans g.g, same_mut (s.h.trans g.h) z.2, fun b hb gb => g.n b (not_none s.h hb) (s.n b hb gb), i3, by simp [s.len], _, this⟩ rfl
  · have np : ¬ p ∈ ts := (List.nodup_cons.mp h3).1
    refine NestR.snoc ⟨vs, by rw [upd_ne hap]; exact upd_same, RpA.mono eg _ _ r⟩ (h4.mono (g.g.trans eg) fun t ht => ?_)
    rw [upd_ne (fun e => np (by rw [← e]; exact ht)), upd_ne (fun e => hat (by rw [← e]; exact List.mem_cons_of_mem _ ht))]
/-- xs[j].append(d) -/
theorem evM_nestApp {i j : Nat} {z : Int} {xss : List (List D)} {xs : List D} (h0 : δ[i]? = some (nest xss)) (hb : Ev E tb δ (.int z)) (hj : z = (j : Int)) (hx : xss[j]? = some xs) (ha : Ev E te δ d) (hz : xs.length < 100000) :
    EvM E (tBM E.K "list" rAppend (tOp (rIxL E.K) (tVar i) tb) (tCons te tNil)) δ (δ.set i (nest (xss.set j (xs ++ [d])))) .none := fun σ G H Q s k => by
  obtain ⟨p, ts, F, ho, q, h1, h3, h4⟩ := s.atNest h0
  have hp := q.in_ i _ _ h1
  refine ⟨.ref p, ho, hb σ G H _ s fun y G1 H1 g1 r1 => ?_⟩
  subst hj
  have r1 : y = .int (j : Int) := r1
  subst r1
  obtain ⟨t, vs, k1, k2, k3⟩ := h4.get hx
  have ht := q.in_ i _ _ k2
  refine ⟨p, ts.map V.ref, (j : Int), .ref t, rfl, rfl, SqL.of (g1.h _ _ hp), atI_nat (by rw [List.getElem?_map, k1]; rfl), .inl ⟨rfl, _, SqL.of (g1.h _ _ ht)⟩, ha σ G1 H1 _ (s.grow g1) fun v G2 H2 g2 r2 => ?_⟩
  have g := g1.trans g2
  have zt := q.out i t (by rw [k2]; simp)
  have gt2 : G2 t = none := g.n t (by rw [ht]; simp) zt.1
  have k3' := RpA.mono g.g _ _ k3
  have i3 : Same G2 (upd H2 t (.lst (vs ++ [v]))) := same_mut g.i gt2
  have htm : t ∈ ts := List.mem_of_getElem? k1
  obtain ⟨np, ntd⟩ := List.nodup_cons.mp h3
  have npt : p ≠ t := fun e => np (by rw [e]; exact htm)
  refine ⟨t, vs, v, rfl, rfl, g.h _ _ ht, by rw [k3.len]; exact Nat.lt_of_lt_of_le hz (by decide), ?_⟩
  have := q.step s.i i (nest (xss.set j (xs ++ [d]))) (some (.ref p)) (upd (F i) t (.lst (vs ++ [v]))) g.g i3 g.n (fun b o hb' hf => by
    have ne : b ≠ t := fun e => by rw [e, k2] at hf; cases hf
    rw [upd_ne ne]; exact g.h b o hb') (fun b o hb' => by
    by_cases e : b = t
    · subst e; rw [upd_same] at hb' ⊢; exact hb'
    · rw [upd_ne e] at hb' ⊢; exact g.h _ _ (q.in_ i b o hb')) (fun b hb' => by
    by_cases e : b = t
    · subst e; exact ⟨gt2, zt.2⟩
    · rw [upd_ne e] at hb'
      have y := q.out i b hb'
      exact ⟨g.n b (not_none (q.in_ i) hb') y.1, y.2⟩) (fun b hb' => by
    by_cases e : b = t
    · subst e; exact .inl (by rw [k2]; simp)
    · rw [upd_ne e] at hb'; exact .inl hb') ⟨.ref p, rfl, fun G' eg => ⟨p, ts, rfl, by rw [upd_ne npt]; exact h1, h3, NestR.set ((RpA.mono eg _ _ k3').snoc (Rp.mono eg _ _ r2)) ntd (h4.mono (g.g.trans eg) fun _ _ => rfl) k1⟩⟩
  rw [set_get ho] at this
  exact k _ G2 _ g.g ⟨s.g.trans g.g, same_mut (s.h.trans g.h) zt.2, fun b hb gb => g.n b (not_none s.h hb) (s.n b hb gb), i3, by simp [s.len], _, this⟩ rfl
/-- xs.extend(ys) -/
theorem evM_extend {n : Nat} {xs ys : List D} (h0 : δ[n]? = some (.ow xs)) (ha : Ev E te δ (.list ys)) (hz : xs.length + ys.length ≤ 2000000) : EvM E (tBM E.K "list" rExtend (tVar n) (tCons te tNil)) δ (δ.set n (.ow (xs ++ ys))) .none := fun σ G H Q s k => by
  obtain ⟨p, vs, ho, h1, h2, h3, h4⟩ := s.atOw h0
  refine ⟨.ref p, ho, .inl ⟨rfl, _, SqL.of h1⟩, ha σ G H _ s fun v G2 H2 g r => ?_⟩
  have s2 := s.grow g
  obtain ⟨b, us, e, h5, h6⟩ := r
  subst e
  have h2' := RpA.mono g.g _ _ h2
  exact ⟨p, b, vs, us, rfl, rfl, g.h _ _ h1, g.i _ _ h5, by rw [h2'.len, h6.len]; exact Nat.le_trans hz (by decide), k _ G2 _ g.g (s2.mutate h0 ho (h2'.append h6)) rfl⟩

/-! ### a call whose answer is known by a property only -/
def spX (K : PySem.W.Frag) (Pre : List Sl → Prop) (R : List Sl → D → Prop) : Sp := fun vs H Q _ => ∃ G as, Same G H ∧ ArgsR K G H as vs ∧ Pre as ∧ ∀ d v G2 H2, R as d → Gr G H G2 H2 → Rp G2 d v → Q v H2
theorem q_asgX {Pre : List Sl → Prop} {R : List Sl → D → Prop} {as : List Sl} {i : Nat} {XE : XK} (h : Ea E t δ as) (hp : Pre as) (k : ∀ d, R as d → Xs E u (δ.set i (.d d)) Φ) : Xs E (tSeq (tAsg (tCall (spX E.K Pre R) [] XE t) (gName i)) u) δ Φ := fun σ G H X s p =>
  h σ G H _ s fun us G1 H1 g1 r1 => by
    rw [List.append_nil]
    refine ⟨G1, as, g1.i, r1, hp, fun d v G2 H2 hd g2 r2 => ?_⟩
    exact k d hd _ G2 H2 X ((s.grow (g1.trans g2)).setD i r2) fun o q => (p o q).mono (g1.trans g2).g
theorem spX_run {K : PySem.W.Frag} {Pre : List Sl → Prop} {R : List Sl → D → Prop} {t : TS} {N : List Str} {vs : List V} {H : Hp} {Q : VK} {XE : XK} (hsp : spX K Pre R vs H Q XE) (hn : vs.length ≤ N.length)
    (h : ∀ as, Pre as → ∀ E : Ent, E.K = K → Xs E t (argSl as (N.length - as.length)) fun o => ∃ d, R as d ∧ o = .rt d) : t { nx := fun _ H' => Q .non H', rt := Q } (start N vs) H := by
  obtain ⟨G, as, i, r, hp, k⟩ := hsp
  refine h as hp ⟨K, G, H⟩ rfl (start N vs) G H _ (st_start i r hn) fun o e => ?_
  obtain ⟨d, hd, e⟩ := e
  subst e
  exact fun v G' H' g r => k d v G' H' hd g r
theorem spX_len {K : PySem.W.Frag} {Pre : List Sl → Prop} {R : List Sl → D → Prop} {n : Nat} {vs : List V} {H : Hp} {Q : VK} {XE : XK} (hsp : spX K Pre R vs H Q XE) (h : ∀ as, Pre as → as.length = n) : vs.length = n := by
  obtain ⟨G, as, i, r, hp, k⟩ := hsp
  rw [r.len, h as hp]
end
end PL

/-! PExc: defs that may raise: their calls, raise, what of it is seen on data. -/
namespace PL
open PySem PySem.Spec PyProof.Rows L2
/-- a def that may be called by its name, and may raise -/
structure ClX (P : Program) (w : World) (K : PySem.W.Frag) (mg : Str → Option Value) (base : Heap) (k : Nat) (x : Str) (sp : Sp) : Prop where
  ex : ∃ (f : Addr) (fd : FuncData) (ps : List Str), FnOk P w K mg base (L2.CX P w) k f fd ps sp ∧ mg x = some (.ref f) ∧ PySem.W.keepIn K (.ref f) = true ∧ Binds K fd ps []
section
variable {X : Cx} {k j : Nat} {sp : Sp} {x : Str} {p pos : Pos} {e : Expr} {es : List Expr} {t : TA} {W : WX} {E : XK}
/-- a call in a def that lets the exception out -/
theorem pe_clX (c : ClX X.prog X.w X.K X.mg X.base k x sp) (hr : Room j X.A) (hk : k ≤ j) (hg : Gl X x) (tk : Takes X (fun cls d _ H => E cls d H)) (ha : PA X (e :: es) t)
    (hdb : (x == ("__debug__" : Str)) = false := by decide) (he : starEach (e :: es) X.env = (false, eval e X.env) :: starEach es X.env := by rfl) (hpl : (backTo pos (starEach es X.env)).any (·.1) = false := by rfl) :
    PE X (.Call (.Name x p) (e :: es) [] pos) (tCall sp [] E t) := by
  obtain ⟨f, fd, ps, F, hm, kp, b⟩ := c.ex
  exact pe_call F (hr.mono hk) hg hm kp b .nil (passes_call tk fun _ _ _ _ h => h) ha hdb he hpl
/-- a call within a try -/
theorem pe_clS (c : ClX X.prog X.w X.K X.mg X.base k x sp) (hr : Room j X.A) (hk : k ≤ j) (hg : Gl X x) (tk : Takes X W) (ha : PA X (e :: es) t)
    (hdb : (x == ("__debug__" : Str)) = false := by decide) (he : starEach (e :: es) X.env = (false, eval e X.env) :: starEach es X.env := by rfl) (hpl : (backTo pos (starEach es X.env)).any (·.1) = false := by rfl) :
    PE X (.Call (.Name x p) (e :: es) [] pos) (tCallS sp (WE W) t) := by
  obtain ⟨f, fd, ps, F, hm, kp, b⟩ := c.ex
  exact pe_callS F (hr.mono hk) hg hm kp b (fun σ => passAt tk σ) ha hdb he hpl
end
section
variable {P : Program} {w : World} {K : PySem.W.Frag} {mg : Str → Option Value} {base : Heap}
theorem cl_ofX {x : Str} {st : Stmt} {N ps : List Str} {k : Nat} {sp : Sp} (F : Fd K mg x st) (S : FnScope N ps (defScope st)) (len : ∀ vs H Q E, sp vs H Q E → vs.length = ps.length)
    (hb : ∀ (kV doc pm : Value) (an : Option Addr) (cdv ct : Value) (us : List Value), us.length = ps.length → bindArgs (PySem.W.fnOf x x (defArgs st) (defBody st) (defScope st) .none kV doc pm an cdv ct) ⟨us, []⟩ = pure (ps.zip us))
    (hbody : ∀ (f : Addr) (cdv : Value) (A : Around) (outer : List Env) (s : Shared) (H : Hp) (vs : List V) (Q : VK) (E : XK), Room k (A.deeper (envOfC x (defScope st) s.heap.objs.size f cdv)) → sp vs H Q E →
      ∃ t, PSs (cxOf (L2.CX P w) P w K mg base N x (defScope st) f cdv A outer s H E) (defBody st) t ∧ t { nx := fun _ H' => Q .non H', rt := Q } (start N vs) H) : ClX P w K mg base (k + 1) x sp := by
  obtain ⟨f, fd, fn, m⟩ := F.ex
  exact ⟨f, fd, ps, fn.okX S len fun cdv A outer s H vs Q E hr hs => hbody f cdv A outer s H vs Q E hr hs, m, fn.kp, fn.binds hb⟩
end
/-- raise: the def's wish -/
def tRaise (W : XK) (c : Value) : TS := fun _ _ H => W c none H
/-- an expression that is never reached -/
def tNeverE : TE := fun _ _ _ => False
theorem pe_neverE {X : Cx} {e : Expr} : PE X e tNeverE := ⟨fun _ _ _ _ _ _ h => h.elim⟩
/-- may answer, may raise -/
def spU (K : PySem.W.Frag) (R : List Sl → D → Prop) (C : List Sl → Value → Prop) : Sp := fun vs H Q E => ∃ G as, Same G H ∧ ArgsR K G H as vs ∧
  ((∃ d, R as d ∧ ∀ v G2 H2, Gr G H G2 H2 → Rp G2 d v → Q v H2) ∨ ∃ c, C as c ∧ ∀ G2 H2, Gr G H G2 H2 → E c none H2)
/-- an expression that raises: what is wished of it is not asked -/
def EvX (E : Ent) (te : TE) (δ : List Sl) : Prop := ∀ σ G H Q, St E δ σ G H → te σ H Q
/-- the wish is met wherever the entry's heap has only grown -/
def Wm (E : Ent) (W : XK) (c : Value) : Prop := ∀ G2 H2, Gr E.G E.H G2 H2 → W c none H2
section
variable {E : Ent} {δ : List Sl} {te ta tb : TE} {d : D} {Φ : Out → Prop} {t : TA} {as : List Sl} {R : List Sl → D → Prop} {C : List Sl → Value → Prop} {W : XK} {c : Value} {u : TS}
theorem ev_callU (h : Ea E t δ as) (hR : R as d) : Ev E (tCall (spU E.K R C) [] W t) δ d := fun σ G H Q s k => h σ G H _ s fun us G1 H1 g1 r1 => by
  rw [List.append_nil]
  exact ⟨G1, as, g1.i, r1, .inl ⟨d, hR, fun v G2 H2 g2 r2 => k v G2 H2 (g1.trans g2) r2⟩⟩
theorem evX_call (h : Ea E t δ as) (hC : C as c) (hW : Wm E W c) : EvX E (tCall (spU E.K R C) [] W t) δ := fun σ G H Q s => h σ G H _ s fun us G1 H1 g1 r1 => by
  rw [List.append_nil]
  exact ⟨G1, as, g1.i, r1, .inr ⟨c, hC, fun G2 H2 g2 => hW G2 H2 (s.gr.trans (g1.trans g2))⟩⟩
theorem xs_raise (hW : Wm E W c) : Xs E (tRaise W c) δ Φ := fun σ G H X s p => hW G H s.gr
theorem xs_dropX (h : EvX E te δ) : Xs E (tDrop te) δ Φ := fun σ G H X s p => h σ G H _ s
theorem xs_asgE {g : TG} (h : EvX E te δ) : Xs E (tAsg te g) δ Φ := fun σ G H X s p => h σ G H _ s
theorem xs_retX (h : EvX E te δ) : Xs E (tRet te) δ Φ := fun σ G H X s p => h σ G H _ s
theorem xs_ifX {tt : TT} {t u : TS} (h : ∀ σ G H Q, St E δ σ G H → tt σ H Q) : Xs E (tIfS tt t u) δ Φ := fun σ G H X s p => h σ G H _ s
theorem spU_run {K : PySem.W.Frag} {t : TS} {N : List Str} {vs : List V} {H : Hp} {Q : VK} {XE : XK} (hsp : spU K R C vs H Q XE) (hn : vs.length ≤ N.length)
    (h1 : ∀ as d, R as d → ∀ E : Ent, E.K = K → Xs E t (argSl as (N.length - as.length)) (RetOk d))
    (h2 : ∀ as c, C as c → ∀ E : Ent, E.K = K → Wm E XE c → Xs E t (argSl as (N.length - as.length)) fun _ => False) : t { nx := fun _ H' => Q .non H', rt := Q } (start N vs) H := by
  obtain ⟨G, as, i, r, h | h⟩ := hsp
  · obtain ⟨d, hR, k⟩ := h
    exact spR_run (R := R) (XE := XE) ⟨G, as, d, i, r, hR, k⟩ hn h1
  · obtain ⟨c, hC, k⟩ := h
    exact h2 as c hC ⟨K, G, H⟩ rfl k (start N vs) G H _ (st_start i r hn) fun o e => e.elim
theorem spU_len {K : PySem.W.Frag} {n : Nat} {vs : List V} {H : Hp} {Q : VK} {XE : XK} (hsp : spU K R C vs H Q XE) (h1 : ∀ as d, R as d → as.length = n) (h2 : ∀ as c, C as c → as.length = n) : vs.length = n := by
  obtain ⟨G, as, i, r, h | h⟩ := hsp
  · obtain ⟨d, hR, k⟩ := h; rw [r.len, h1 as d hR]
  · obtain ⟨c, hC, k⟩ := h; rw [r.len, h2 as c hC]
end
end PL

/-! PTry: except X as n, the caught object kept behind the suite: its class is known. -/
namespace PL
open PySem PySem.Spec PyProof.Rows L2
/-- at a: an object of the class cls -/
def ExC (cls : Value) (d : Option Addr) (a : Addr) : HO := .ext fun h => ∃ (oe : Obj) (vs : Array Value), h.get? a = some oe ∧ Zc cls d oe ∧ oe.data = .fields vs
section
variable {X : Cx} {pins : List (Addr × Obj)} {σ : L2.St} {H : Hp} {s : Shared}
/-- an object that nothing is said of is spoken of from here on -/
theorem track {a : Addr} {cls : Value} {d : Option Addr} {oe : Obj} {vs : Array Value} (I : Inv X pins σ H s) (he : s.heap.get? a = some oe) (hc : Zc cls d oe) (hv : oe.data = .fields vs) (na : H a = none) (n0 : X.s_0.heap.get? a = none) (nL : a ≠ X.env.locals) (nc : ∀ v, oe.data ≠ .cell v)
    (np : ∀ p ∈ X.pn ++ pins, p.1 ≠ a) : Inv X pins σ (upd H a (ExC cls d a)) s where
  ok := I.ok
  os := I.os
  bare := I.bare
  base := {
    keep := fun b o e n hb hx => I.base.keep b o e n hb hx
    slot := fun b o e n hb hx => I.base.slot b o e n hb hx
    free := fun b o e n hx => by
      rw [upd_ne fun z => by rw [z, n0] at e; cases e]
      exact I.base.free b o e n hx
    there := fun b o e hx => I.base.there b o e hx
    tups := fun b xs e => by
      have q := I.base.tups b xs e
      rw [upd_ne fun z => by rw [z, na] at q; cases q]
      exact q
    frzs := fun b u xs e => by
      have q := I.base.frzs b u xs e
      rw [upd_ne fun z => by rw [z, na] at q; cases q]
      exact q
    tbls := fun b ps e => by
      obtain ⟨more, q⟩ := I.base.tbls b ps e
      exact ⟨more, by rw [upd_ne fun z => by rw [z, na] at q; cases q]; exact q⟩ }
  loc := I.loc
  cell := I.cell
  free := by rw [upd_ne (Ne.symm nL)]; exact I.free
  freeC := fun x c e => by
    rw [upd_ne fun z => by
      obtain ⟨v, q⟩ := I.cell x c e
      rw [z] at q
      obtain ⟨o, q1, q2⟩ := id q
      rw [he] at q1
      cases q1
      exact nc _ q2]
    exact I.freeC x c e
  pin := fun p hp => by
    obtain ⟨q1, q2, q3⟩ := I.pin p hp
    exact ⟨q1, by rw [upd_ne (np p hp)]; exact q2, q3⟩
  hok := I.hok.laidN (fun _ _ e => e) na ⟨⟨oe, vs, he, hc, hv⟩, ⟨oe, he⟩, fun h1 h2 ⟨o, v, q1, q2⟩ k => ⟨o, v, k o q1, q2⟩⟩
  len := I.len
end
end PL
namespace PL
open PySem PySem.Spec PyProof.Rows L2
/-- as wAs; the object stands in the heap that is spoken of behind the suite -/
def wKeep (K : PySem.W.Frag) (c : Value) (i : Nat) (ts : Addr → Value → Option Addr → TS) (D : Ends) : WX := fun cls d σ H =>
  PySem.W.exmOne K cls c = some true ∧ ∀ a, H a = none → ts a cls d { nx := fun σ' H' => H' a = none → D.nx (σ'.set i none) (upd H' a (ExC cls d a)), rt := fun _ _ => False, bk := fun _ _ => False, ct := fun _ _ => False } (σ.set i (some (.ref a))) H
section
variable {X : Cx} {x n : Str} {c : Value} {i : Nat} {body suite : List Stmt} {b₀ : Stmt} {npos pos pos' : Pos} {tb : WX → TS} {ts : Addr → Value → Option Addr → TS}
theorem ps_try_keep (hex : X.ex = []) (hs : X.stack = X.env :: X.outer) (hf : X.env.frame = some X.env.locals) (hN : X.N.Nodup) (hi : X.N[i]? = some n) (hln : X.env.kindOf n = some .local) (hc : Names X x c)
    (hb : ∀ (W : WX) (pn : List (Addr × Obj)) (xe : Value → Shared → Prop), Takes (X.tr pn xe) W → PassesOwn (model X.prog X.w) X.A X.env xe → PSs (X.tr pn xe) body (tb W))
    (hsu : ∀ (a : Addr) (oe : Obj) (cls : Value) (d : Option Addr) (pn : List (Addr × Obj)), Zc cls d oe → (∃ vs, oe.data = .fields vs) → PSs (X.suite a ((a, oe) :: pn)) (b₀ :: suite) (ts a cls d)) :
    PS X (.Try body [.ExceptHandler (some (.Name x npos)) (some n) (b₀ :: suite) pos'] [] [] pos) (fun D σ H => tb (wKeep X.K c i ts D) D σ H) := by
  constructor
  intro pins s σ H D I h
  have ok := I.ok
  have frames : X.A.frames = some (X.env :: X.outer) := by rw [ok.frames, hs]
  apply wpAny_Try_except
  -- the body, what it lets out goes to the clause
  have BODY := (hb (wKeep X.K c i ts D) (X.pn ++ pins) (fun e s₁ => wpAny (model X.prog X.w) X.A (noteFrame e X.env) (fun _ s₂ => wpAny (model X.prog X.w) X.A (setFlight e none) (fun _ s₃ =>
    wpAny (model X.prog X.w) X.A (handleBy e X.env [.ExceptHandler (some (.Name x npos)) (some n) (b₀ :: suite) pos']) (SP X pins D) X.xe s₃) X.xe s₂) X.xe s₁) ?lets PassesOwn.looking).run [] s σ H D (I.toTry _) h
  case lets =>
    rintro u s' ⟨a, B, sI, pins', σ', H', cls, d, rfl, J', nb, up, sky, na, os, ag, hb1, hyes⟩
    have J : Inv X pins σ' H' sI := J'.ofTry ok
    have skyE : Sky B (X.env :: X.outer) a (Zc cls d) X.env.locals s'.heap := hs ▸ sky
    have Ba : B.get? a = none := by
      rcases sky with q | q | q
      · exact q.2.1
      · exact q.2.1
      · exact q.2.1
    refine Sky.land Zc.steady frames hf skyE fun h3 fl3 up3 => ?_
    have J3 : Inv X pins σ' H' { s' with heap := h3 } := J.landed nb fl3.1 (up.trans up3) os ag
    obtain ⟨oe3, vs3, he3, hz3, hd3⟩ := fl3.there
    have nfr : a ∉ frs (X.env :: X.outer) := fun hm => by
      obtain ⟨_, o', e', hnf⟩ := fl3.2.2.1.mem hm
      rw [he3] at e'
      cases e'
      exact hnf _ hd3
    have nL : a ≠ X.env.locals := fun z => nfr (List.mem_filterMap.mpr ⟨X.env, List.mem_cons_self, by rw [hf, z]⟩)
    have nF : a ∉ X.fs := fun hm => by
      obtain ⟨e, he, q⟩ := List.mem_filterMap.mp hm
      exact nfr (List.mem_filterMap.mpr ⟨e, List.mem_cons_of_mem _ he, q⟩)
    -- the object is new
    have old : ∀ b o, sI.heap.get? b = some o → b ∉ frs X.stack → b ≠ a := fun b o e hnb z => by
      have q := nb b o e hnb
      rw [z, Ba] at q
      cases q
    have nst : a ∉ frs X.stack := by rw [hs]; exact nfr
    have n0 : X.s_0.heap.get? a = none := by
      cases q : X.s_0.heap.get? a with
      | none => rfl
      | some o =>
        obtain ⟨o', e'⟩ := J.base.there a o q (by rw [hex]; simp)
        exact absurd rfl (old a o' e' nst)
    have np : ∀ p ∈ X.pn ++ pins, p.1 ≠ a := fun p hp => by
      obtain ⟨q1, q2, q3, q4, _⟩ := J.pin p hp
      refine old p.1 p.2 q1 fun hm => ?_
      rw [hs] at hm
      obtain ⟨e, he, q⟩ := List.mem_filterMap.mp hm
      rcases List.mem_cons.mp he with z | z
      · rw [z, hf] at q
        exact q3 (Option.some.inj q).symm
      · exact q4 (List.mem_filterMap.mpr ⟨e, z, q⟩)
    have S3 := J3.suite he3 hd3 na nL nF
    refine wpAny_handleBy_cons (codeAny_handlers_test ?_) (by intro q; cases q)
    have LT : PySem.W.Looks (model X.prog X.w) h3 (typeOf (.ref a)) cls := fun A Q E s k q => wpAny_typeOf_ref (k _ _ he3) (by rw [hz3.1]; exact q)
    have LM := PySem.W.exm_one (M := model X.prog X.w) J3.kIn LT hb1
    have named : ∀ {Q : Value → Shared → Prop} {E : Value → Shared → Prop}, Q c { s' with heap := h3 } → wpAny (model X.prog X.w) (X.A.mark (some (.ref a))) (eval (.Name x npos) X.env) Q E { s' with heap := h3 } := by
      intro Q E q
      obtain ⟨hg, hdbg, hm | ⟨hm, hv, hnn⟩⟩ := hc
      · exact ld_glob (X := X.suite a ((a, oe3) :: (X.pn ++ pins))) S3 hg hm q hdbg
      · exact ld_blt (X := X.suite a ((a, oe3) :: (X.pn ++ pins))) S3 hg hm hv q hnn hdbg
    refine named (LM.here ?_)
    refine codeAny_handlers_suite_as (HandSPX.lands_againZ fl3 fun h4 fl4 up4 => ?_)
    have J4 : Inv X pins σ' H' { s' with heap := h4 } := J.landed nb fl4.1 ((up.trans up3).trans up4) os ag
    obtain ⟨oe4, vs4, he4, hz4, hd4⟩ := fl4.there
    have S4 := J4.suite he4 hd4 na nL nF
    refine store_ok (X := X.suite a ((a, oe4) :: (X.pn ++ pins))) (v := .ref a) S4 hN hi (.inl hln) rfl (fun s5 S5 => ?_) (.inr hln)
    refine wpAny_mono ((hsu a oe4 cls d (X.pn ++ pins) hz4 ⟨_, hd4⟩).run [] s5 _ H' _ S5 (hyes a na)) (fun f s6 hsp => ?_) fun _ _ z => False.elim z
    cases f with
    | next =>
      obtain ⟨σ6, H6, S6, q6⟩ := hsp
      have P6 := S6.pin (a, oe4) (by simp)
      have J6 : Inv X ((a, oe4) :: pins) σ6 H6 s6 := ⟨ok, S6.os, S6.bare, S6.base, S6.loc, S6.cell, S6.free, S6.freeC, fun p hp => S6.pin p (by
        rw [List.append_nil]
        rcases List.mem_append.mp hp with z | z
        · exact List.mem_cons_of_mem _ (List.mem_append_left _ z)
        · rcases List.mem_cons.mp z with z | z
          · rw [z]; exact List.mem_cons_self
          · exact List.mem_cons_of_mem _ (List.mem_append_right _ z)), S6.hok, S6.len⟩
      refine gone_ok J6 hN hi hln fun s7 J7 => ?_
      have P7 := J7.pin (a, oe4) (List.mem_append_right _ List.mem_cons_self)
      have J8 : Inv X pins (σ6.set i none) H6 s7 := ⟨ok, J7.os, J7.bare, J7.base, J7.loc, J7.cell, J7.free, J7.freeC, fun p hp => J7.pin p (by
        rcases List.mem_append.mp hp with z | z
        · exact List.mem_append_left _ z
        · exact List.mem_append_right _ (List.mem_cons_of_mem _ z)), J7.hok, J7.len⟩
      exact ⟨_, _, track J8 P7.1 hz4 hd4 P7.2.1 n0 nL P7.2.2.2.2 np, q6 P7.2.1⟩
    | brk =>
      obtain ⟨σ6, H6, S6, q6⟩ := hsp
      exact q6.elim
    | cont =>
      obtain ⟨σ6, H6, S6, q6⟩ := hsp
      exact q6.elim
    | ret u =>
      obtain ⟨v6, σ6, H6, S6, r6, q6⟩ := hsp
      exact q6.elim
  refine wpAny_mono BODY (fun f s1 hsp => ?_) fun e s1 he => he
  cases f with
  | next =>
    obtain ⟨σ', H', J', q⟩ := hsp
    exact wpAny_execs_nil ⟨σ', H', J'.ofTry ok, q⟩
  | brk =>
    obtain ⟨σ', H', J', q⟩ := hsp
    exact ⟨σ', H', J'.ofTry ok, q⟩
  | cont =>
    obtain ⟨σ', H', J', q⟩ := hsp
    exact ⟨σ', H', J'.ofTry ok, q⟩
  | ret u =>
    obtain ⟨v, σ', H', J', r, q⟩ := hsp
    exact ⟨v, σ', H', J'.ofTry ok, r, q⟩
end
/-- isinstance(e, C), e a kept exception, C a class -/
def rIsK (K : PySem.W.Frag) (D : Addr) : List V → Hp → VK → Prop := fun xs H Q => ∃ (a : Addr) (c : V) (cv : Value) (b : Bool), xs = [.ref a, c] ∧ H a = some (ExC (.ref D) none a) ∧ (∀ u, RelV c u → u = cv) ∧ PySem.W.kitOne K (.ref D) cv = some b ∧ Q (.bl b) H
theorem call_isK {X : Cx} {D : Addr} (C : ExcC X.K D) : CallR X (.builtin "isinstance") (rIsK X.K D) := by
  intro pins s σ H xs us Q I r h
  obtain ⟨a, c, cv, b, rfl, ha, hcv, e, q⟩ := h
  cases r with
  | cons rx rr =>
    cases rr with
    | cons rt rr =>
      cases rr
      cases rx
      have ec := hcv _ rt
      subst ec
      obtain ⟨⟨oe, vs, hget, hz, hv⟩, _, _⟩ := I.hok a _ ha
      have J : PySem.W.InstAt s.heap a oe D none := by
        obtain ⟨oc, od, oda, osl⟩ := oe
        obtain ⟨h1, h2⟩ := hz
        dsimp only at h1 h2 hv
        subst h1 h2 hv
        exact ⟨hget, rfl, rfl, trivial⟩
      exact PySem.W.kia_one (PySem.W.handS_kitx_exc C.hg C.hk C.hs C.hd C.ha C.hn C.ht C.hm) I.kIn J e (fun z => nomatch z) fun tk => ⟨.bl b, H, I.kept (t' := tk) fun _ _ z => z, rfl, q⟩
end PL

/-! PLcX: a list comprehension whose items may raise, in a def that lets the exception out. -/
namespace PL
open PySem PySem.Spec PyProof.Rows L2
section
variable {M : Model} {A : Around} {E : Value → Shared → Prop} {s : Shared} {env : Env}
/-- behind the block: the list is handed on, or the exception passed on -/
def compPostX (M : Model) (A : Around) (E : Value → Shared → Prop) (Q : Value → Shared → Prop) (acc : Value) (cenv : Env) (r : Result) (s' : Shared) : Prop :=
  match r with
  | .ok _ => ∃ m, s'.heap.Ns cenv.locals m ∧ ∀ h', Heap.SameBut cenv.locals s'.heap h' → Q acc { s' with heap := h' }
  | .error x => ∃ m, s'.heap.Ns cenv.locals m ∧ ∀ h', Heap.SameBut cenv.locals s'.heap h' → wpAny M A (PySem.passOn "comprehension.variables-let-go" x cenv : Sem Value) (fun _ _ => False) E { s' with heap := h' }
theorem comprehension_freeX {e : Expr} {scope : Scope} {pos : Pos} {newAcc first : Sem Value} {g : Comprehension} {gs : List Comprehension} {cl : List (Str × Addr)} {Q : Value → Shared → Prop}
    (hcl : clausesOf e = g :: gs) (hs : ∀ x, foldedSetIterable g.iter env x = pure x) (hclos : closureFor scope env = pure cl)
    (hkind : scope.kind = .function) (hnames : ∀ x ∈ scope.names, x.2 = .local → scope.names.lookup x.1 = some .local)
    (h : wpAny M A first (fun x s₁ => wpAny M A (pyIter x) (fun it s₂ => wpAny M A newAcc (fun acc s₃ =>
      wpAny M A (newFunctionEnv scope env.globals cl [] env.qual none .none (some env)) (fun cenv s₄ =>
        codeAny M A (.compStart e 0 it acc { cenv with scope := relabel scope env }) (compPostX M A E Q acc { cenv with scope := relabel scope env }) s₄) E s₃) E s₂) E s₁) E s) :
    wpAny M A (comprehension e scope env pos newAcc false first none) Q E s := by
  unfold comprehension
  rw [hclos, hcl]
  refine wpAny_bind (wpAny_mono h (fun x s₁ h₁ => wpAny_bind (wpAny_standAt (wpAny_bind (wpAny_of_eq (hs x) (wpAny_bind (wpAny_holding (wpAny_mono h₁ (fun it s₂ h₂ =>
    wpAny_standIf (wpAny_bind (wpAny_mono h₂ (fun acc s₃ h₃ => wpAny_bind (wpAny_pure (wpAny_bind (wpAny_mono h₃ (fun cenv s₄ h₄ => ?_) fun _ _ h' => h')))) fun _ _ h' => h')))
      fun _ _ h' => h'))))))) fun _ _ h' => h')
  dsimp only
  have hv : ∀ x ∈ (scope.names.filter fun x => (x.2 == .local || x.2 == .cell) && x.1 != (".0" : Str)).reverse, x.2 = .local →
      Env.kindOf { cenv with scope := relabel scope env } x.1 = some .local := fun x hx hl => lookup_relabel_local (hnames x (List.mem_filter.mp (List.mem_reverse.mp hx)).1 hl)
  refine wpAny_holding (wpAny_bind (wpAny_attempt (wpAny_holding (wpAny_run (codeAny_mono h₄ fun r s' hr => ?_)))))
  cases r with
  | ok f =>
    obtain ⟨m, hn, hr⟩ := hr
    exact wpAny_bind (wpAny_holding (wpAny_comp_letGo (cenv := { cenv with scope := relabel scope env }) hkind _ s' m hv hn fun h' m' _ hs' => wpAny_pure (hr h' hs')))
  | error x =>
    obtain ⟨m, hn, hr⟩ := hr
    exact wpAny_bind (wpAny_holding (wpAny_comp_letGo (cenv := { cenv with scope := relabel scope env }) hkind _ s' m hv hn fun h' m' _ hs' => wpAny_mono (hr h' hs') (fun _ _ f => f.elim) fun _ _ y => y))
theorem note_frame {u : Value} {e e' : Env} (h : e.frame = e'.frame) : noteFrame u e = noteFrame u e' := by
  unfold noteFrame PySem.frameOf
  rw [h]
end

section
variable {X : Cx} {pins : List (Addr × Obj)} {σ : L2.St} {H : Hp} {sI s s' : Shared} {E : XK}
/-- an exception that comes of a call, in the air of X -/
def XF (X : Cx) (E : XK) (u : Value) (s' : Shared) : Prop :=
  ∃ (a : Addr) (B : Heap) (sI : Shared) (pins : List (Addr × Obj)) (σ : L2.St) (H : Hp) (cls : Value) (d : Option Addr),
    u = .ref a ∧ Inv X pins σ H sI ∧ (∀ b o, sI.heap.get? b = some o → b ∉ frs X.stack → B.get? b = some o) ∧ sI.heap.UpToSlots s'.heap ∧
      HandSPX.FlyingZ B X.stack a (Zc cls d) s'.heap ∧ H a = none ∧ s'.os = sI.os ∧ AllBare s'.gens ∧ E cls d H
theorem XF.of_call (I : Inv X pins σ H s) {u : Value} (c : L2.CX X.prog X.w X.stack H s E u s') : XF X E u s' := by
  obtain ⟨a, B, H', cls, d, rfl, fl, hok, ub, na, os, ag, hE⟩ := c
  obtain ⟨G, g1, g2⟩ := restrict s'.heap fun b => (B.get? b).isSome || decide (b ∈ frs X.stack)
  have st : B.StaysIn s'.heap := fl.1
  have gB : ∀ b o, B.get? b = some o → G.get? b = some o := fun b o e => by
    rw [g1 b (by simp [e])]
    exact st b o e
  have gF : ∀ b, b ∈ frs X.stack → G.get? b = s'.heap.get? b := fun b hb => g1 b (by simp [hb])
  have og : ∀ b o, G.get? b = some o → s'.heap.get? b = some o ∧ ((B.get? b).isSome = true ∨ b ∈ frs X.stack) := fun b o e => by
    cases q : ((B.get? b).isSome || decide (b ∈ frs X.stack)) with
    | false => rw [g2 b q] at e; cases e
    | true =>
      rw [g1 b q] at e
      exact ⟨e, by simpa [Bool.or_eq_true] using q⟩
  refine ⟨a, B, { s with heap := G, gens := s'.gens, drawn := s'.drawn, toks := s'.toks }, pins, σ, H', cls, d, rfl, ?_, fun b o e hb => ?_, Heap.UpToSlots.of_keeps fun b o e => (og b o e).1, fl, na, os, ag, hE⟩
  · refine I.call (ch := []) ⟨fun b o e n hb _ => gB b o (ub.keep b o e n hb), fun b o e n hb _ => ?_, fun b o e n _ => ub.free b o e n, fun b o e _ => ?_, ub.tups, ub.frzs, ub.tbls⟩ (hok.kept gB) ag (fun _ z => nomatch z)
    · obtain ⟨sl, q⟩ := ub.slot b o e hb
      exact ⟨sl, by rw [gF b hb]; exact q⟩
    · by_cases hb : b ∈ frs X.stack
      · obtain ⟨sl, q⟩ := ub.slot b o e hb
        exact ⟨_, by rw [gF b hb]; exact q⟩
      · obtain ⟨o', q⟩ := ub.there b o e hb
        exact ⟨o', gB b o' q⟩
  · obtain ⟨e', h⟩ := og b o e
    rcases h with h | h
    · obtain ⟨o', q⟩ := Option.isSome_iff_exists.mp h
      have z := st b o' q
      rw [e'] at z; cases z
      exact q
    · exact absurd h hb
/-- the block's exception is the def's -/
theorem blk_raise {scope : Scope} {ce : Env} {fp : List Addr} {H3 : Hp} {s3 : Shared} {W : WX} {Er : Value → Shared → Prop} (I3 : Inv X pins σ H3 s3) (hch : ∀ b ∈ fp, (b ∈ X.ex ∨ X.s_0.heap.objs.size ≤ b) ∧ b ≠ X.env.locals ∧ (∀ x c, X.env.cells.lookup x = some c → c ≠ b) ∧ ∀ p ∈ X.pn ++ pins, p.1 ≠ b)
    (hs : X.stack = X.env :: X.outer) (hf : X.env.frame = some X.env.locals) (cf : ce.frame = X.env.frame) (cL : ce.locals = s3.heap.objs.size) (tk : Takes X W) (hW : ∀ cls d σ H, E cls d H → W cls d σ H) {u : Value} (x : XF (X.blk s3 H3 scope ce fp) E u s') :
    wpAny (model X.prog X.w) X.A (noteFrame u ce) (fun _ s'' => ∃ m, s''.heap.Ns ce.locals m ∧ ∀ h', Heap.SameBut ce.locals s''.heap h' → wpAny (model X.prog X.w) X.A (PySem.passOn "comprehension.variables-let-go" u ce : Sem Value) (fun _ _ => False) X.xe { s'' with heap := h' }) Er s' := by
  obtain ⟨a, B, sI, pb, σb, H', cls, d, rfl, I, nb, up, fl, na, os, ag, hE⟩ := x
  have nb : ∀ b o, sI.heap.get? b = some o → b ∉ frs X.stack → B.get? b = some o := nb
  have fl : HandSPX.FlyingZ B X.stack a (Zc cls d) s'.heap := fl
  have hfr : X.A.frames = some (X.env :: X.outer) := by rw [I3.ok.frames, hs]
  rw [note_frame cf]
  rw [hs] at fl
  have nC : H' ce.locals = none := I.free
  have Cfr : ce.locals ∉ frs X.stack := fun hm => by
    have := I3.stack.mem hm
    obtain ⟨_, o, ho, _⟩ := this
    have := Heap.lt_size ho
    rw [cL] at this
    exact Nat.lt_irrefl _ this
  have aC : a ≠ ce.locals := fun z => by
    obtain ⟨m, ⟨o, es, ep, ho, _⟩, _⟩ := I.loc
    have ho : sI.heap.get? ce.locals = some o := ho
    have q := nb _ _ ho Cfr
    rw [← z, fl.2.1] at q
    cases q
  refine HandSPX.looks_onZ Zc.steady hfr hf fl fun h2 held up2 => ?_
  obtain ⟨m, hn, _⟩ := I.loc
  have hn : sI.heap.Ns ce.locals m := hn
  have stB : ∀ b o, sI.heap.get? b = some o → b ∉ frs X.stack → h2.get? b = some o := fun b o e hb => held.1 b o (nb b o e hb)
  have hn2 : h2.Ns ce.locals m := by
    obtain ⟨o, es, ep, ho, r⟩ := hn
    exact ⟨o, es, ep, stB _ _ ho Cfr, r⟩
  refine ⟨m, hn2, fun h3 sb => ?_⟩
  -- the block's dict is let go
  have hC : ∀ b, b ≠ ce.locals → h3.get? b = h2.get? b := fun b hb => sb.2 b hb
  have base3 : (PySem.W.hideAll B [ce.locals]).StaysIn h3 := fun b o e => by
    have ne : b ≠ ce.locals := fun z => by rw [z, PySem.W.hideAll_none _ (by simp)] at e; cases e
    rw [hC b ne]
    exact held.1 b o (PySem.W.of_hideAll _ e)
  have hid : ∀ b, B.get? b = none → (PySem.W.hideAll B [ce.locals]).get? b = none := fun b e => by
    cases q : (PySem.W.hideAll B [ce.locals]).get? b with
    | none => rfl
    | some o => rw [PySem.W.of_hideAll _ q] at e; cases e
  have frC : ∀ b o, b ∈ frs X.stack → h2.get? b = some o → h3.get? b = some o := fun b o hb e => by
    rw [hC b fun z => Cfr (by rw [← z]; exact hb)]; exact e
  have ff : h2.FunFrames B (X.env :: X.outer) := held.2.2.1
  have ff3 : h3.FunFrames (PySem.W.hideAll B [ce.locals]) (X.env :: X.outer) := by
    have key : ∀ l : List Env, (∀ b ∈ frs l, b ∈ frs X.stack) → h2.FunFrames B l → h3.FunFrames (PySem.W.hideAll B [ce.locals]) l := by
      intro l
      induction l with
      | nil => intro _ _; trivial
      | cons e l ih =>
        intro hl hff
        obtain ⟨k1, ⟨L, o, k2, k3, k4, k5⟩, k6⟩ := hff
        exact ⟨k1, ⟨L, o, k2, hid _ k3, frC L o (hl L (List.mem_filterMap.mpr ⟨e, List.mem_cons_self, k2⟩)) k4, k5⟩, ih (fun b hb => hl b (by
          obtain ⟨e', he, q⟩ := List.mem_filterMap.mp hb
          exact List.mem_filterMap.mpr ⟨e', List.mem_cons_of_mem _ he, q⟩)) k6⟩
    exact key _ (fun b hb => by rw [hs]; exact hb) ff
  obtain ⟨oe, vs, T, oT, ts, t1, t2, t3, t4, t5, t6, t7, t8, t9⟩ := held.2.2.2
  have TC : T ≠ ce.locals := fun z => by
    obtain ⟨o, es, ep, ho, _⟩ := hn
    have q := nb _ _ ho Cfr
    rw [← z, t5] at q
    cases q
  have tr3 : HandSPX.TracedZ h3 (PySem.W.hideAll B [ce.locals]) a (Zc cls d) (rawInt X.env.locals) := ⟨oe, vs, T, oT, ts, by rw [hC a aC]; exact t1, t2, t3, t4, hid _ t5, t6, by rw [hC T TC]; exact t7, t8, t9⟩
  have held3 : HandSPX.HeldZ (PySem.W.hideAll B [ce.locals]) (X.env :: X.outer) a (Zc cls d) X.env.locals h3 := ⟨base3, hid _ held.2.1, ff3, tr3⟩
  unfold PySem.passOn
  obtain ⟨oe3, vs3, T3, _, _, u1, _, u3, u4, _⟩ := tr3
  refine wpAny_bind (wpAny_field u1 u3 u4 ?_)
  rw [if_neg (by simp)]
  rw [cf, hf]
  refine wpAny_bind (HandSPX.setFlight_onZ held3 fun h4 held4 up4 => ?_)
  refine wpAny_throw (tk _ _ ?_)
  have nbH : ∀ b o, (PySem.W.hideAll sI.heap [ce.locals]).get? b = some o → sI.heap.get? b = some o ∧ b ≠ ce.locals := fun b o e =>
    ⟨PySem.W.of_hideAll _ e, fun z => by rw [z, PySem.W.hideAll_none _ (by simp)] at e; cases e⟩
  have s3C : ∀ b o, s3.heap.get? b = some o → b ≠ ce.locals := fun b o e z => by
    have := Heap.lt_size e
    rw [z, cL] at this
    exact Nat.lt_irrefl _ this
  have hg : ∀ b o, sI.heap.get? b = some o → b ≠ ce.locals → (PySem.W.hideAll sI.heap [ce.locals]).get? b = some o := fun b o e ne => PySem.W.hideAll_get _ e (by simpa using ne)
  have Ib := I.base
  have I' : Inv X pins σ H' { sI with heap := PySem.W.hideAll sI.heap [ce.locals] } := by
    refine I3.call' (ch := fp) I.os ⟨fun b o e n hb hx => hg b o (Ib.keep b o e n hb hx) (s3C b o e), fun b o e n hb hx => ?_, fun b o e n hx => Ib.free b o e n hx, fun b o e hx => ?_, Ib.tups, Ib.frzs, Ib.tbls⟩ (fun b v e => ?_) I.bare hch
    · obtain ⟨sl, q⟩ := Ib.slot b o e n hb hx
      exact ⟨sl, hg b _ q (s3C b o e)⟩
    · obtain ⟨o', q⟩ := Ib.there b o e hx
      exact ⟨o', hg b _ q (s3C b o e)⟩
    · refine (I.hok b v e).stay (fun c w hc q => hg c w q fun z => ?_) (fun _ q => q) fun _ _ q => q
      rcases hc with y | y
      · rw [← y, z, nC] at e; cases e
      · rw [z, nC] at y; cases y
  refine ⟨a, PySem.W.hideAll B [ce.locals], _, pins, σ, H', cls, d, rfl, I', fun b o e hb => ?_, fun b o e hd => ?_, .inr (.inr (by rw [hs]; exact held4)), na, os, ag, hW _ _ _ _ hE⟩
  · obtain ⟨e1, e2⟩ := nbH b o e
    exact PySem.W.hideAll_get _ (nb b o e1 hb) (by simpa using e2)
  · obtain ⟨e1, e2⟩ := nbH b o e
    obtain ⟨sl, e3⟩ := up b o e1 hd
    obtain ⟨sl2, e4⟩ := up2 b _ e3 hd
    obtain ⟨sl3, e5⟩ := up4 b _ ((hC b e2).trans e4) hd
    exact ⟨sl3, e5⟩
theorem lcX_core {pins : List (Addr × Obj)} {s : Shared} {σ : L2.St} {H : Hp} {Q : VK} {W : WX} {elt tg iter : Expr} {ifs : List Expr} {scope : Scope} {own : List (Str × Nat)} {pos pos' : Pos} {wi : TI} {g : TG} {tt : TT} {te : TE} {Qf : Value → Shared → Prop}
    (hst : X.stack = X.env :: X.outer) (hfe : X.env.frame = some X.env.locals) (tk : Takes X W) (hW : ∀ cls d σ H, E cls d H → W cls d σ H)
    (hc : X.calm = true) (hN : X.N.Nodup) (I : Inv X pins σ H s) (hi : PI X tg iter wi) (ok : BlkOk X.N X.env.scope scope own)
    (hg : ∀ (s : Shared) (H : Hp) (C : Addr) (cl : List (Str × Addr)) (fp : List Addr), PG (X.blk s H scope (compEnvC scope cl C X.env) fp) tg g) (ht : ∀ (s : Shared) (H : Hp) (C : Addr) (cl : List (Str × Addr)) (fp : List Addr), PTs (X.blk s H scope (compEnvC scope cl C X.env) fp) ifs tt)
    (he : ∀ (s : Shared) (H : Hp) (C : Addr) (cl : List (Str × Addr)) (fp : List Addr), PE ((X.blk s H scope (compEnvC scope cl C X.env) fp).wish (XF (X.blk s H scope (compEnvC scope cl C X.env) fp) E)) elt te) (hs : ∀ x, foldedSetIterable iter X.env x = pure x)
    (h : tLc wi g tt te (own.map (·.2)) σ H Q)
    (hRR : ∀ D C s' m H', Inv X pins σ H' s' → Q (.ref D) H' → s'.heap.Ns C m → FpOk X pins H' C → ∀ h'', Heap.SameBut C s'.heap h'' → Qf (.ref D) { s' with heap := h'' }) :
    wpAny (model X.prog X.w) X.A (comprehension (.ListComp elt [⟨tg, iter, ifs, 0⟩] scope pos) scope X.env pos' (newList []) false (eval iter X.env) none) Qf X.xe s := by
  have hfree : ∀ y ∈ scope.names, y.2 = .free → ∃ c, X.env.cells.lookup y.1 = some c := fun y hy e => by
    rcases ok.free y hy e with k | k
    · exact I.ok.has _ (.inl k)
    · exact I.ok.has _ (.inr k)
  refine comprehension_freeX rfl hs (closure_ok hfree) ok.kind (fun y hy e => by rw [ok.uniq y hy, e])
    (thn (hi.run pins s σ H _ I h) fun xv s1 hx => thn hx fun itv s2 h2 => ?_)
  obtain ⟨it, fp, tn, J, H2, e, I2, T, st2, f2, q⟩ := h2
  subst e
  refine wpAny_newObj_type (newEnv_comp ?_) (by show 0 ≤ sizeLine; decide)
  generalize hD : s2.heap.objs.size = D
  have hDn : H2 D = none := I2.hok.fresh (Nat.le_of_eq hD)
  obtain ⟨W', ⟨m0, w0⟩, turn⟩ := q D hDn
  -- the new list
  generalize hs3 : ({ s2 with heap := s2.heap.push { cls := .type "list", data := .seq ([] : List Value).toArray } } : Shared) = s3
  have I3 : Inv X pins σ (upd H2 D (.lst [])) s3 := by
    rw [← hs3]
    refine I2.laid (t' := s2.toks) (fun b o e => Heap.get?_push_of_some _ e) (Nat.le_of_eq hD) ⟨Nat.zero_le _, [], 0, .nil, ?_⟩
    rw [← hD]
    exact Heap.get?_push_size _ rfl
  have h3 : s3.heap = s2.heap.push { cls := .type "list", data := .seq ([] : List Value).toArray } := by rw [← hs3]
  have sz : ∀ b ∈ fp, b < s2.heap.objs.size := fun b hb => by
    obtain ⟨o, e, _⟩ := T.obj _ _ st2 b hb
    exact Heap.lt_size e
  have f3 : ∀ b ∈ fp, FpOk X pins (upd H2 D (.lst [])) b ∧ b < s3.heap.objs.size := fun b hb => by
    have hlt := sz b hb
    refine ⟨⟨?_, (f2 b hb).2⟩, by rw [h3, Heap.size_push]; exact Nat.lt_succ_of_lt hlt⟩
    rw [upd_ne (by rw [← hD]; exact Nat.ne_of_lt hlt)]
    exact (f2 b hb).1
  have st3 : tn 0 s3.heap := T.keep _ _ _ st2 fun b _ o e => by rw [h3]; exact Heap.get?_push_of_some _ e
  have I4 := block_start I3 ok hN f3
  have pg := hg s3 (upd H2 D (.lst [])) s3.heap.objs.size (cellsFrom (s3.heap.objs.size + 1) scope.names (cloFrom X.env.cells scope.names [])) fp
  have pt := ht s3 (upd H2 D (.lst [])) s3.heap.objs.size (cellsFrom (s3.heap.objs.size + 1) scope.names (cloFrom X.env.cells scope.names [])) fp
  have pe := he s3 (upd H2 D (.lst [])) s3.heap.objs.size (cellsFrom (s3.heap.objs.size + 1) scope.names (cloFrom X.env.cells scope.names [])) fp
  show codeAny _ _ (.compStart (.ListComp elt [⟨tg, iter, ifs, 0⟩] scope pos) 0 (.ref it) (.ref D) (compEnvC scope (cellsFrom (s3.heap.objs.size + 1) scope.names (cloFrom X.env.cells scope.names [])) s3.heap.objs.size X.env)) (compPostX (model X.prog X.w) X.A X.xe Qf (.ref D) (compEnvC scope (cellsFrom (s3.heap.objs.size + 1) scope.names (cloFrom X.env.cells scope.names [])) s3.heap.objs.size X.env)) { s3 with heap := pushCells (s3.heap.push { cls := .type "dict", data := .dict #[] }) scope.names }
  have nfp : ∀ b ∈ fp, (upd H2 D (.lst [])) b = none := fun b hb => (f3 b hb).1.1
  generalize hce : compEnvC scope (cellsFrom (s3.heap.objs.size + 1) scope.names (cloFrom X.env.cells scope.names [])) s3.heap.objs.size X.env = ce at I4 pg pt pe ⊢
  have cL : ce.locals = s3.heap.objs.size := by subst hce; rfl
  have cf : ce.frame = X.env.frame := by subst hce; rfl
  generalize hH3 : upd H2 D (.lst []) = H3 at I3 I4 pg pt pe w0 nfp f3
  generalize hs4 : ({ s3 with heap := pushCells (s3.heap.push { cls := .type "dict", data := .dict #[] }) scope.names } : Shared) = s4 at I4 ⊢
  have st4 : tn 0 s4.heap := T.keep _ _ _ st3 fun b _ o e => by rw [← hs4]; exact pushCells_keeps _ _ _ _ (Heap.get?_push_of_some _ e)
  have hch : ∀ b ∈ fp, (b ∈ X.ex ∨ X.s_0.heap.objs.size ≤ b) ∧ b ≠ X.env.locals ∧ (∀ x c, X.env.cells.lookup x = some c → c ≠ b) ∧ ∀ p ∈ X.pn ++ pins, p.1 ≠ b := fun b hb => ⟨(f3 b hb).1.2.2.2.1, (f3 b hb).1.2.1, (f3 b hb).1.2.2.2.2.1, (f3 b hb).1.2.2.2.2.2⟩
  have stat : ∀ {σ' : L2.St} {H' : Hp} {s' : Shared}, Inv (X.blk s3 H3 scope ce fp) [] σ' H' s' → (∀ b ∈ fp, H' b = none) → ∀ b ∈ fp, FpOk (X.blk s3 H3 scope ce fp) [] H' b := fun {σ' H' s'} I' hn b hb =>
    ⟨hn b hb, (I'.ok.exf b hb).1, I'.ok.exfs b hb, .inl hb, fun x c e => (I'.ok.exf b hb).2 x c e, fun p hp => absurd (show p ∈ ([] : List (Addr × Obj)) ++ [] from hp) (by simp)⟩
  have loop : codeAny (model X.prog X.w) X.A (.compLoop (.ListComp elt [⟨tg, iter, ifs, 0⟩] scope pos) 0 (.ref it) (.ref D) ce) (compPostX (model X.prog X.w) X.A X.xe Qf (.ref D) ce) s4 := by
    refine compLoop_any (fun n s' => ∃ i H', Inv (X.blk s3 H3 scope ce fp) [] (wipe σ (own.map (·.2))) H' s' ∧ tn i s'.heap ∧ (∀ b ∈ fp, H' b = none) ∧ W' i n H') ?_ m0 ⟨0, H3, I4, st4, nfp, w0⟩
    rintro n s5 ⟨i, H5, I5, st5, n5, w5⟩
    rcases turn i n H5 w5 with ⟨stop, qq⟩ | ⟨go, Nx, hNx, step⟩
    · have td := T.done (X.blk s3 H3 scope ce fp) rfl rfl rfl hc i [] s5 _ H5 (fun _ _ => False) I5 (stat I5 n5) st5 stop
      refine thnF td fun r s6 ⟨hr, I6⟩ => ?_
      subst hr
      -- back in the def's context
      have I7 : Inv X pins σ H5 s6 := I3.call' (ch := fp) I6.os I6.base I6.hok I6.bare hch
      have nC : H5 s3.heap.objs.size = none := by
        have z : H5 ce.locals = none := I6.free
        rw [cL] at z
        exact z
      obtain ⟨m, hn, _⟩ := I6.loc
      have hn : s6.heap.Ns ce.locals m := hn
      refine ⟨m, hn, fun h'' sb => ?_⟩
      rw [cL] at hn sb
      exact hRR D s3.heap.objs.size s6 m H5 I7 qq hn (I3.fpOk (Nat.le_refl _) nC) h'' sb
    · have ti := T.item (X.blk s3 H3 scope ce fp) rfl rfl rfl hc i [] s5 _ H5 (fun _ _ => False) I5 (stat I5 n5) st5 go
      refine thnF ti fun r s6 ⟨u, hr, h6⟩ => ?_
      subst hr
      refine thnF h6 fun _ s7 ⟨x, H7, I7, r7, y7, st7, n7⟩ => ?_
      have I7' := I7.pinned (stat I7 n7) (T.obj _ _ st7)
      refine thnF (pg.run _ s7 _ H7 x u _ I7' r7 (step x H7 y7)) fun _ s8 ⟨σ8, H8, I8, hw8, q8⟩ => ?_
      refine thnF (pt.run _ s8 σ8 H8 _ I8 q8) fun b s9 ⟨H9, I9, q9⟩ => ?_
      -- the turn's end
      have fin : ∀ {s' : Shared} {H' : Hp}, Inv (X.blk s3 H3 scope ce fp) ([] ++ pinsAt fp s7.heap) σ8 H' s' → Nx H' → ∃ m, m < n ∧ ∃ i H', Inv (X.blk s3 H3 scope ce fp) [] (wipe σ (own.map (·.2))) H' s' ∧ tn i s'.heap ∧ (∀ b ∈ fp, H' b = none) ∧ W' i m H' := fun {s' H'} I' nx => by
        obtain ⟨m', hm, w'⟩ := hNx H' nx
        have pin' : ∀ b ∈ fp, ∀ o, s7.heap.get? b = some o → s'.heap.get? b = some o ∧ H' b = none := fun b hb o e =>
          let z := I'.pin (b, o) (List.mem_append_right _ (List.mem_append_right _ (mem_pinsAt hb e)))
          ⟨z.1, z.2.1⟩
        have hl : (wipe σ (own.map (·.2))).length = σ8.length := by rw [← hw8, wipe_length]
        refine ⟨m', hm, i + 1, H', (I'.unpinned (pins := [])).weak hl (fun j v e => ?_), T.keep _ _ _ st7 fun b hb o e => (pin' b hb o e).1, fun b hb => ?_, w'⟩
        · rw [← hw8] at e
          exact (wipe_some e).1
        · obtain ⟨o, e, _⟩ := T.obj _ _ st7 b hb
          exact (pin' b hb o e).2
      cases b with
      | false =>
        simp only [Bool.false_eq_true, if_false] at q9 ⊢
        exact fin I9 q9
      | true =>
        simp only [if_true] at q9 ⊢
        refine wpAny_mono (pe.run _ s9 σ8 H9 _ (I9.wish _) q9) (fun z s10 ⟨yv, H10, I10, r10, acc, hD10, hz10, nx⟩ => ?_) fun u s' xf => ?_
        · exact app_ok (X := X.blk s3 H3 scope ce fp) I10.unwish hD10 hz10 r10 fun s11 I11 => fin I11 nx
        · show wpAny _ _ (noteFrame u ce) _ _ s'
          exact blk_raise I3 hch hst hfe cf cL tk hW xf
  exact codeAny_compStart_list loop (T.self X.A 0 _ _ _ st4 loop)
theorem pe_lcX {W : WX} {elt tg iter : Expr} {ifs : List Expr} {scope : Scope} {own : List (Str × Nat)} {pos : Pos} {wi : TI} {g : TG} {tt : TT} {te : TE} (hst : X.stack = X.env :: X.outer) (hfe : X.env.frame = some X.env.locals) (tk : Takes X W) (hW : ∀ cls d σ H, E cls d H → W cls d σ H) (hc : X.calm = true) (hN : X.N.Nodup) (hi : PI X tg iter wi) (ok : BlkOk X.N X.env.scope scope own)
    (hg : ∀ (s : Shared) (H : Hp) (C : Addr) (cl : List (Str × Addr)) (fp : List Addr), PG (X.blk s H scope (compEnvC scope cl C X.env) fp) tg g) (ht : ∀ (s : Shared) (H : Hp) (C : Addr) (cl : List (Str × Addr)) (fp : List Addr), PTs (X.blk s H scope (compEnvC scope cl C X.env) fp) ifs tt)
    (he : ∀ (s : Shared) (H : Hp) (C : Addr) (cl : List (Str × Addr)) (fp : List Addr), PE ((X.blk s H scope (compEnvC scope cl C X.env) fp).wish (XF (X.blk s H scope (compEnvC scope cl C X.env) fp) E)) elt te) (hs : ∀ x, foldedSetIterable iter X.env x = pure x := by intro _; rfl) :
    PE X (.ListComp elt [⟨tg, iter, ifs, 0⟩] scope pos) (tLc wi g tt te (own.map (·.2))) := by
  refine ⟨fun pins s σ H Q I h => ?_⟩
  rw [eval_ListComp]
  refine lcX_core hst hfe tk hW hc hN I hi ok hg ht he hs h fun D C s' m H' I' q hn f h'' sb => ?_
  obtain ⟨f0, f1, f2, f3, f4, f5⟩ := f
  exact ⟨.ref D, H', I'.turned (t' := s'.toks) (fun b o hb e => (sb.2 b hb).trans e) f0 f1 f3 f4 f5, rfl, q⟩
/-- a call in such a block -/
theorem pe_clB {Y : Cx} {k j : Nat} {sp : Sp} {x : Str} {p pos : Pos} {e : Expr} {es : List Expr} {t : TA} (c : ClX Y.prog Y.w Y.K Y.mg Y.base k x sp) (hr : Room j Y.A) (hk : k ≤ j) (hg : Gl Y x) (ha : PA (Y.wish (XF Y E)) (e :: es) t)
    (hdb : (x == ("__debug__" : Str)) = false := by decide) (he : starEach (e :: es) Y.env = (false, eval e Y.env) :: starEach es Y.env := by rfl) (hpl : (backTo pos (starEach es Y.env)).any (·.1) = false := by rfl) :
    PE (Y.wish (XF Y E)) (.Call (.Name x p) (e :: es) [] pos) (tCall sp [] E t) := by
  obtain ⟨f, fd, ps, F, hm, kp, b⟩ := c.ex
  exact pe_call (X := Y.wish (XF Y E)) (CX := L2.CX Y.prog Y.w) F (hr.mono hk) hg hm kp b .nil (fun _ _ _ _ _ _ I c => XF.of_call I.unwish c) ha hdb he hpl
end
end PL

/-! PHold: kept exceptions as slots: try on data, isinstance; exceptions made as values; two readings of one operator. -/
namespace PL
open PySem PySem.Spec PyProof.Rows L2
/-- at a: an exception object of the class cls -/
def IsX (cls : Value) (a : Addr) (o : HO) : Prop := ∃ φ : Heap → Prop, o = .ext φ ∧ ∀ h, φ h → ∃ (oe : Obj) (vs : Array Value), h.get? a = some oe ∧ Zc cls none oe ∧ oe.data = .fields vs
theorem isX_C {cls : Value} {a : Addr} : IsX cls a (ExC cls none a) := ⟨_, rfl, fun _ h => h⟩
theorem isX_O {cls : Value} {a : Addr} : IsX cls a (ExO cls a) := ⟨_, rfl, fun _ ⟨oe, vs, h1, h2, h3, _⟩ => ⟨oe, vs, h1, h2, h3⟩⟩
theorem kit_x {X : Cx} {pins : List (Addr × Obj)} {σ : L2.St} {H : Hp} {s : Shared} {D a : Addr} {o : HO} (C : ExcC X.K D) (I : Inv X pins σ H s) (ha : H a = some o) (hx : IsX (.ref D) a o) :
    ∃ P : Heap → Prop, PySem.W.KitX X.K (.ref a) (.ref D) P ∧ P s.heap := by
  obtain ⟨φ, rfl, hφ⟩ := hx
  obtain ⟨p, _, _⟩ := I.hok a _ ha
  obtain ⟨oe, vs, hget, hz, hv⟩ := hφ _ p
  have J : PySem.W.InstAt s.heap a oe D none := by
    obtain ⟨oc, od, oda, osl⟩ := oe
    obtain ⟨h1, h2⟩ := hz
    dsimp only at h1 h2 hv
    subst h1 h2 hv
    exact ⟨hget, rfl, rfl, trivial⟩
  exact ⟨_, PySem.W.handS_kitx_exc C.hg C.hk C.hs C.hd C.ha C.hn C.ht C.hm, J⟩
/-- isinstance(e, C): e a kept exception, or any value of a known type -/
def rIsAny (K : PySem.W.Frag) : List V → Hp → VK → Prop := fun xs H Q => rIsi K xs H Q ∨ ∃ (a D : Addr) (o : HO) (c : V) (u : Value) (b : Bool), xs = [.ref a, c] ∧ ExcC K D ∧ H a = some o ∧ IsX (.ref D) a o ∧ ClsV c u ∧ PySem.W.kitOne K (.ref D) u = some b ∧ Q (.bl b) H
def rIsAnyT (K : PySem.W.Frag) : List V → Hp → VK → Prop := fun xs H Q => rIsiT K xs H Q ∨ ∃ (a D tp : Addr) (o : HO) (cs : List V) (us : List Value) (b : Bool), xs = [.ref a, .ref tp] ∧ ExcC K D ∧ H a = some o ∧ IsX (.ref D) a o ∧ H tp = some (.tup cs) ∧ Paired ClsV cs us ∧ PySem.W.kitAny K (.ref D) us = some b ∧ Q (.bl b) H
section
variable {X : Cx}
theorem call_isAny : CallR X (.builtin "isinstance") (rIsAny X.K) := by
  intro pins s σ H xs us Q I r h
  rcases h with h | ⟨a, D, o, c, u, b, rfl, C, ha, hx, k, e, q⟩
  · exact call_isi pins s σ H xs us Q I r h
  · obtain ⟨u1, u2, rfl, r1, r2⟩ := vals2 r
    have e2 := k.eq r2
    subst e2
    cases (show u1 = Value.ref a from r1)
    obtain ⟨P, Z, p⟩ := kit_x C I ha hx
    exact PySem.W.kia_one Z I.kIn p e (fun z => nomatch z) fun tk => ⟨.bl b, H, I.tok tk, rfl, q⟩
theorem call_isAnyT : CallR X (.builtin "isinstance") (rIsAnyT X.K) := by
  intro pins s σ H xs us Q I r h
  rcases h with h | ⟨a, D, tp, o, cs, ws, b, rfl, C, ha, hx, hT, k, e, q⟩
  · exact call_isiT pins s σ H xs us Q I r h
  · obtain ⟨u1, u2, rfl, r1, r2⟩ := vals2 r
    cases (show u1 = Value.ref a from r1)
    cases (show u2 = Value.ref tp from r2)
    obtain ⟨P, Z, p⟩ := kit_x C I ha hx
    obtain ⟨_, its, rv, o2, h1, h2, n, h3⟩ := (show ObjOk X.prog X.w H s.heap tp (.tup cs) from I.hok tp _ hT)
    have e3 := ClsV.all k rv
    subst e3
    obtain ⟨oc, od, dt, sl⟩ := o2
    simp only at h2 h3
    subst h2 h3
    exact PySem.W.kia_tup Z I.kIn p h1 e (fun z => nomatch z) fun tk => ⟨.bl b, H, I.tok tk, rfl, q⟩
/-- two readings of one operator -/
def rOr (r r' : R2) : R2 := fun x y H Q => r x y H Q ∨ r' x y H Q
theorem op_or2 {f : Value → Value → Sem Value} {r r' : R2} (h : OpR X f r) (h' : OpR X f r') : OpR X f (rOr r r') := by
  intro pins s σ H x y v u Q I rx ry z
  rcases z with z | z
  · exact h pins s σ H x y v u Q I rx ry z
  · exact h' pins s σ H x y v u Q I rx ry z
end
/-! ### on data -/
/-- a slot that holds an exception of the class cls -/
def exS (cls : Value) : Sl := .ob fun _ F v => ∃ (a : Addr) (o : HO), v = .ref a ∧ F a = some o ∧ IsX cls a o
/-- try: tb except c as (slot i): ts -/
def tTryK (K : PySem.W.Frag) (c : Value) (i : Nat) (tb : WX → TS) (ts : Addr → Value → Option Addr → TS) : TS := fun D σ H => tb (wKeep K c i ts D) D σ H
section
variable {E : Ent} {δ δ' : List Sl} {te ta tb tc : TE} {d : D} {Φ : Out → Prop} {t : TA} {as : List Sl} {R : List Sl → D → Prop} {C : List Sl → Value → Prop} {c cls : Value} {u : TS} {i n : Nat}
theorem ev_isX {D : Addr} {cv : V} {w : Value} {b : Bool} (h0 : δ[n]? = some (exS (.ref D))) (X : ExcC E.K D) (hc : ClsV cv w) (hk : PySem.W.kitOne E.K (.ref D) w = some b) : Ev E (tCB (rIsAny E.K) (tCons (tVar n) (tCons (tC cv) tNil))) δ (.bool b) := fun σ G H Q s k => by
  obtain ⟨o, ho⟩ := s.here h0
  obtain ⟨F, q⟩ := s.rg
  obtain ⟨v, e, hs⟩ := q.sl n _ o h0 ho
  subst e
  obtain ⟨a, oo, e, h1, h2⟩ := hs G (Same.refl G)
  subst e
  exact ⟨.ref a, ho, .inr ⟨a, D, oo, cv, w, b, rfl, X, q.in_ n a _ h1, h2, hc, hk, k _ G H (Gr.refl s.i) rfl⟩⟩
theorem ev_isD {cv : V} {w : Value} {b : Bool} (ha : Ev E ta δ d) (hc : ClsV cv w) (hk : PySem.W.kitOne E.K (.type (tyD d)) w = some b) : Ev E (tCB (rIsAny E.K) (tCons ta (tCons (tC cv) tNil))) δ (.bool b) := fun σ G H Q s k => ha σ G H _ s fun v G2 H2 g r =>
  .inl ⟨v, cv, _, w, b, rfl, hc, tyX_of g.i r, hk, k _ G2 H2 g rfl⟩
/-- the classes of a tuple -/
theorem tup_cls {cs : List V} {σ : L2.St} {H : Hp} {Q : VK} (hl : cs.length ≤ 1000) (k : ∀ p, H p = none → Q (.ref p) (upd H p (.tup cs))) : ∀ {t : TA}, (∀ (R : List V → Hp → Prop), R cs H → t σ H R) → tTup t σ H Q := fun h => h _ ⟨Nat.le_trans hl (by decide), k⟩
def clsT : List V → TA
  | [] => tNil
  | c :: cs => tCons (tC c) (clsT cs)
theorem clsT_run {σ : L2.St} {H : Hp} : ∀ (cs : List V) (R : List V → Hp → Prop), R cs H → clsT cs σ H R
  | [], R, h => h
  | c :: cs, R, h => clsT_run cs (fun vs H1 => R (c :: vs) H1) h
theorem ev_isXT {D : Addr} {cs : List V} {us : List Value} {b : Bool} (h0 : δ[n]? = some (exS (.ref D))) (X : ExcC E.K D) (hl : cs.length ≤ 1000) (hc : Paired ClsV cs us) (hk : PySem.W.kitAny E.K (.ref D) us = some b) : Ev E (tCB (rIsAnyT E.K) (tCons (tVar n) (tCons (tTup (clsT cs)) tNil))) δ (.bool b) := fun σ G H Q s k => by
  obtain ⟨o, ho⟩ := s.here h0
  obtain ⟨F, q⟩ := s.rg
  obtain ⟨v, e, hs⟩ := q.sl n _ o h0 ho
  subst e
  obtain ⟨a, oo, e, h1, h2⟩ := hs G (Same.refl G)
  subst e
  have ha := q.in_ n a _ h1
  refine ⟨.ref a, ho, clsT_run cs _ ⟨Nat.le_trans hl (by decide), fun p hp => ?_⟩⟩
  have ne : a ≠ p := ne_of_none ha hp
  exact .inr ⟨a, D, p, oo, cs, us, b, rfl, X, by rw [upd_ne ne]; exact ha, h2, upd_same, hc, hk, k _ G _ (Gr.side s.i (same_new hp)) rfl⟩
theorem ev_isDT {cs : List V} {us : List Value} {b : Bool} (ha : Ev E ta δ d) (hl : cs.length ≤ 1000) (hc : Paired ClsV cs us) (hk : PySem.W.kitAny E.K (.type (tyD d)) us = some b) : Ev E (tCB (rIsAnyT E.K) (tCons ta (tCons (tTup (clsT cs)) tNil))) δ (.bool b) := fun σ G H Q s k => ha σ G H _ s fun v G2 H2 g r => by
  refine clsT_run cs _ ⟨Nat.le_trans hl (by decide), fun p hp => ?_⟩
  have gr : Gr G2 H2 G2 (upd H2 p (.tup cs)) := Gr.side g.i (same_new hp)
  exact .inl ⟨v, p, cs, _, us, b, rfl, upd_same, hc, tyX_of gr.i r, hk, k _ G2 _ (g.trans gr) rfl⟩
/-- behind the suite n = e, e the caught object -/
theorem keep_post {X : Ends} {σ : L2.St} {G G0 H : Hp} (s : St E δ σ G H) (hy : PySem.W.exmOne E.K cls c = some true) (e0 : Same G0 G) (hi : i < δ.length) (p : Post E G0 X (.nx (((δ.set i .no).set n (exS cls)).set i .no))) :
    wKeep E.K c i (fun _ _ _ => tAsg (tVar i) (gName n)) X cls none σ H := by
  refine ⟨hy, fun a ha => ?_⟩
  have s1 : St E (δ.set i .no) (σ.set i (some (.ref a))) G H := s.putB i .no _ trivial
  have hi : i < σ.length := by rw [s.len]; exact hi
  refine ⟨.ref a, by rw [List.getElem?_set]; simp [hi], fun _ => ?_⟩
  have gp : G a = none := s.i.free ha
  have g2 : Gr G H G (upd H a (ExC cls none a)) := Gr.side s.i (same_new ha)
  have s2 : St E ((δ.set i .no).set n (exS cls)) ((σ.set i (some (.ref a))).set n (some (.ref a))) G (upd H a (ExC cls none a)) :=
    s1.put g2 n (exS cls) (some (.ref a)) (sing a (ExC cls none a)) (sing_in upd_same) (fun b h => by rw [sing_ne h]; exact ⟨ha, gp⟩) ⟨_, rfl, fun _ _ => ⟨a, _, rfl, sing_self, isX_C⟩⟩
  exact p _ G _ e0 (s2.putB i .no none trivial)
/-- the call in a try: it answers, or it raises what the clause names -/
theorem trS_ret {W : WX} {σ : L2.St} {G H : Hp} {Q : VK} (s : St E δ σ G H) (h : Ea E t δ as) (hR : R as d) (k : ∀ v G2 H2, Gr G H G2 H2 → Rp G2 d v → Q v H2) : tCallS (spU E.K R C) (WE W) t σ H Q := h σ G H _ s fun us G1 H1 g1 r1 =>
  ⟨G1, as, g1.i, r1, .inl ⟨d, hR, fun v G2 H2 g2 r2 => k v G2 H2 (g1.trans g2) r2⟩⟩
theorem trS_exc {W : WX} {σ : L2.St} {G H : Hp} {Q : VK} (s : St E δ σ G H) (h : Ea E t δ as) (hC : C as cls) (k : ∀ G2 H2, Gr G H G2 H2 → W cls none σ H2) : tCallS (spU E.K R C) (WE W) t σ H Q := h σ G H _ s fun us G1 H1 g1 r1 =>
  ⟨G1, as, g1.i, r1, .inr ⟨cls, hC, fun G2 H2 g2 => k G2 H2 (g1.trans g2)⟩⟩
theorem xs_tryX {tb : WX → TS} (hb : ∀ W, tb W = tDrop (tCallS (spU E.K R C) (WE W) t) ∨ (∃ m, tb W = tAsg (tCallS (spU E.K R C) (WE W) t) (gName m)) ∨ tb W = tRet (tCallS (spU E.K R C) (WE W) t)) (h : Ea E t δ as) (hC : C as cls) (hy : PySem.W.exmOne E.K cls c = some true) (hi : i < δ.length)
    (k : Φ (.nx (((δ.set i .no).set n (exS cls)).set i .no))) : Xs E (tTryK E.K c i tb (fun _ _ _ => tAsg (tVar i) (gName n))) δ Φ := fun σ G H X s p => by
  have key : ∀ Q, tCallS (spU E.K R C) (WE (wKeep E.K c i (fun _ _ _ => tAsg (tVar i) (gName n)) X)) t σ H Q := fun Q => trS_exc s h hC fun G2 H2 g => keep_post (s.grow g) hy g.g hi (p _ k)
  show tb (wKeep E.K c i (fun _ _ _ => tAsg (tVar i) (gName n)) X) X σ H
  rcases hb (wKeep E.K c i (fun _ _ _ => tAsg (tVar i) (gName n)) X) with e | ⟨m, e⟩ | e
  · rw [e]; exact key _
  · rw [e]; exact key _
  · rw [e]; exact key _
theorem xs_tryDrop {ts : Addr → Value → Option Addr → TS} (h : Ea E t δ as) (hR : R as d) (k : Φ (.nx δ)) : Xs E (tTryK E.K c i (fun W => tDrop (tCallS (spU E.K R C) (WE W) t)) ts) δ Φ := fun σ G H X s p =>
  trS_ret s h hR fun v G2 H2 g r => p _ k σ G2 H2 g.g (s.grow g)
theorem xs_tryAsg {ts : Addr → Value → Option Addr → TS} {m : Nat} (h : Ea E t δ as) (hR : R as d) (k : Φ (.nx (δ.set m (.d d)))) : Xs E (tTryK E.K c i (fun W => tAsg (tCallS (spU E.K R C) (WE W) t) (gName m)) ts) δ Φ := fun σ G H X s p =>
  trS_ret s h hR fun v G2 H2 g r => p _ k _ G2 H2 g.g ((s.grow g).setD m r)
theorem xs_tryRet {ts : Addr → Value → Option Addr → TS} (h : Ea E t δ as) (hR : R as d) (k : Φ (.rt d)) : Xs E (tTryK E.K c i (fun W => tRet (tCallS (spU E.K R C) (WE W) t)) ts) δ Φ := fun σ G H X s p =>
  trS_ret s h hR fun v G2 H2 g r => p _ k v G2 H2 (s.gr.trans g) r
/-- expressions around one that raises -/
theorem evX_andL (h : EvX E ta δ) : EvX E (tAndV ta tb) δ := fun σ G H Q s => h σ G H _ s
theorem etX_B (h : EvX E ta δ) : ∀ σ G H Q, St E δ σ G H → tB ta σ H Q := fun σ G H Q s => h σ G H _ s
theorem evX_lc {K : PySem.W.Frag} {g : TG} {tt : TT} {vs : List Nat} (h : EvX E ta δ) : EvX E (tLc (iList K ta) g tt te vs) δ := fun σ G H Q s => h σ G H _ s
theorem evX_cb {rc : List V → Hp → VK → Prop} {tr : TA} (h : EvX E ta δ) : EvX E (tCB rc (tCons ta tr)) δ := fun σ G H Q s => h σ G H _ s
theorem xs_forX {K : PySem.W.Frag} {g : TG} {tb : TS} (h : EvX E ta δ) : Xs E (tFor (iList K ta) g tb) δ Φ := fun σ G H X s p => h σ G H _ s
/-- != of a dict with itself, empty -/
theorem ev_neE (ha : Ev E ta δ (.dict [])) (hb : Ev E tb δ (.dict [])) : Ev E (tOp (rOr (rNeD E.K) rNeDA) ta tb) δ (.bool false) := fun σ G H Q s k => ha σ G H _ s fun v G1 H1 g1 r1 => hb σ G1 H1 _ (s.grow g1) fun w G2 H2 g2 r2 => by
  obtain ⟨a, ks, e1, h1, q1⟩ := Rp.mono g2.g _ _ r1
  obtain ⟨b, ls, e2, h2, q2⟩ := r2
  have q1 : ks = [] := q1
  have q2 : ls = [] := q2
  subst e1 e2 q1 q2
  exact .inr ⟨a, b, [], [], rfl, rfl, g2.i _ _ h1, g2.i _ _ h2, rfl, (fun _ z => nomatch z), k _ G2 H2 (g1.trans g2) rfl⟩
theorem ev_neO {d1 d2 : D} (ha : Ev E ta δ d1) (hb : Ev E tb δ d2) (s1 : SeqAt.shaped d1 = true) (s2 : SeqAt.shaped d2 = true) : Ev E (tOp (rOr (rNeD E.K) rNeDA) ta tb) δ (.bool (!PyData.eqv d1 d2)) :=
  ev_op ha hb (op_val (v := .bl (!PyData.eqv d1 d2)) (fun G H x y Q i _ a b q => .inl ⟨d1, d2, dp_of i _ _ (shp_lay s1) a, dp_of i _ _ (shp_lay s2) b, s1, s2, q⟩) fun _ => rfl)
end

/-! ### the program's exception classes -/
inductive Xn where
  | StoneError | NoStones | NoStone | NoLaying | NoChain | NoSide | NoFit | NoDeed | Full | NoText
  deriving DecidableEq
def Xn.str : Xn → Str
  | .StoneError => "StoneError"
  | .NoStones => "NoStones"
  | .NoStone => "NoStone"
  | .NoLaying => "NoLaying"
  | .NoChain => "NoChain"
  | .NoSide => "NoSide"
  | .NoFit => "NoFit"
  | .NoDeed => "NoDeed"
  | .Full => "Full"
  | .NoText => "NoText"
abbrev XA := Xn → Addr
def mkXA (x0 x1 x2 x3 x4 x5 x6 x7 x8 x9 : Addr) : XA
  | .StoneError => x0
  | .NoStones => x1
  | .NoStone => x2
  | .NoLaying => x3
  | .NoChain => x4
  | .NoSide => x5
  | .NoFit => x6
  | .NoDeed => x7
  | .Full => x8
  | .NoText => x9
/-- c stands right under StoneError, and under no other one but itself -/
def Xn.sub : Xn → Xn → Bool
  | _, .StoneError => true
  | .NoStones, .NoStones => true
  | .NoStone, .NoStone => true
  | .NoLaying, .NoLaying => true
  | .NoChain, .NoChain => true
  | .NoSide, .NoSide => true
  | .NoFit, .NoFit => true
  | .NoDeed, .NoDeed => true
  | .Full, .Full => true
  | .NoText, .NoText => true
  | _, _ => false
theorem Xn.sub_self : ∀ c : Xn, Xn.sub c c = true := fun c => by cases c <;> rfl
abbrev veMro : List Value := [.type "ValueError", .type "Exception", .type "BaseException", .type "object"]
theorem cls_refs (xa : XA) : ∀ ds : List Xn, Paired ClsV (ds.map fun d => V.ref (xa d)) (ds.map fun d => Value.ref (xa d))
  | [] => .nil
  | d :: ds => .cons (.own _) (cls_refs xa ds)
/-! ### a list of defs, one of them called -/
structure HeldX (P : Program) (w : World) (K : PySem.W.Frag) (mg : Str → Option Value) (base : Heap) (k : Nat) (f : Addr) (sp : Sp) : Prop where
  ex : ∃ (fd : FuncData) (ps : List Str), FnOk P w K mg base (L2.CX P w) k f fd ps sp ∧ PySem.W.keepIn K (.ref f) = true ∧ Binds K fd ps []
theorem ClX.held {P : Program} {w : World} {K : PySem.W.Frag} {mg : Str → Option Value} {base : Heap} {k : Nat} {x : Str} {sp : Sp} (c : ClX P w K mg base k x sp) : ∃ f, mg x = some (.ref f) ∧ HeldX P w K mg base k f sp := by
  obtain ⟨f, fd, ps, F, hm, kp, b⟩ := c.ex
  exact ⟨f, hm, fd, ps, F, kp, b⟩
def tCallX (tf : TE) (S : List (Addr × Sp)) (E : XK) (t : TA) : TE := fun σ H Q => tf σ H fun v H1 => ∃ f sp, v = .ref f ∧ (f, sp) ∈ S ∧ t σ H1 fun vs H2 => sp vs H2 Q E
theorem pe_callX {X : Cx} {j : Nat} {S : List (Addr × Sp)} {E : XK} {tf : TE} {t : TA} {fe e : Expr} {es : List Expr} {pos : Pos} (A : ∀ p ∈ S, ∃ k, k ≤ j ∧ HeldX X.prog X.w X.K X.mg X.base k p.1 p.2) (hr : Room j X.A) (tk : Takes X (fun cls d _ H => E cls d H)) (hf : PE X fe tf) (ha : PA X (e :: es) t)
    (hcall : eval (.Call fe (e :: es) [] pos) X.env = (do callWith pos (← eval fe X.env) [] (backTo pos (starEach (e :: es) X.env)) (backToKw pos (keywordEach [] X.env))) := by rfl)
    (he : starEach (e :: es) X.env = (false, eval e X.env) :: starEach es X.env := by rfl) (hpl : (backTo pos (starEach es X.env)).any (·.1) = false := by rfl) : PE X (.Call fe (e :: es) [] pos) (tCallX tf S E t) := by
  refine ⟨fun pins s σ H Q I h => ?_⟩
  rw [hcall]
  refine wpAny_bind (thn (hf.run pins s σ H _ I h) fun u s1 ⟨v, H1, I1, r1, q1⟩ => ?_)
  obtain ⟨f, sp, rfl, hS, ht⟩ := q1
  obtain ⟨k, hk, fd, ps, F, kp, b⟩ := A _ hS
  cases r1
  refine PySem.W.callWith_K (h₀ := X.base) I1.ok.mod.kin kp (thn (ha.run pos pins s1 σ _ _ I1 ht) fun us s2 ⟨vs, H2, I2, r, q⟩ => ⟨I2.kIn, ?_⟩) he hpl
  exact run_fn F (hr.mono hk) b .nil (passes_call tk fun _ _ _ _ h => h) I2 r (by rw [List.append_nil]; exact q)
section
variable {E : Ent} {δ : List Sl} {ta : TE} {t : TA} {as : List Sl} {R : List Sl → D → Prop} {C : List Sl → Value → Prop} {c : Value} {W : XK}
theorem ix_fns {fs : List Addr} {f : Addr} {i : Int} {σ : L2.St} {G H : Hp} {Q : VK} (s : St E δ σ G H) (hi : Ev E ta δ (.int i)) (hf : atI fs i = some f) (hz : fs.length ≤ 1000) (k : ∀ G2 H2, Gr G H G2 H2 → Q (.ref f) H2) :
    tOp (rIxL E.K) (tLst (clsT (fs.map V.ref))) ta σ H Q := by
  refine clsT_run _ _ ⟨by rw [List.length_map]; exact Nat.le_trans hz (by decide), fun p hp => ?_⟩
  have g1 : Gr G H G (upd H p (.lst (fs.map V.ref))) := Gr.side s.i (same_new hp)
  refine hi σ G _ _ (s.grow g1) fun y G2 H2 g2 r => ?_
  have r : y = .int i := r
  subst r
  obtain ⟨j, h1, h2⟩ := ixN_of (ys := fs.map V.ref) (by rw [List.length_map]) hf
  exact ⟨p, fs.map V.ref, i, .ref f, rfl, rfl, SqL.of (g2.h _ _ upd_same), h2 _ (by rw [List.getElem?_map, h1]; rfl), k G2 H2 (g1.trans g2)⟩
theorem evX_callX {fs : List Addr} {f : Addr} {i : Int} {S : List (Addr × Sp)} (hi : Ev E ta δ (.int i)) (hf : atI fs i = some f) (hz : fs.length ≤ 1000) (hS : (f, spU E.K R C) ∈ S) (h : Ea E t δ as) (hC : C as c) (hW : Wm E W c) : EvX E (tCallX (tOp (rIxL E.K) (tLst (clsT (fs.map V.ref))) ta) S W t) δ := fun σ G H Q s =>
  ix_fns s hi hf hz fun G1 H1 g1 => ⟨f, _, rfl, hS, h σ G1 H1 _ (s.grow g1) fun us G2 H2 g2 r2 => ⟨G2, as, g2.i, r2, .inr ⟨c, hC, fun G3 H3 g3 => hW G3 H3 (s.gr.trans ((g1.trans g2).trans g3))⟩⟩⟩
end
section
variable {X : Cx} {k j : Nat} {sp : Sp} {x : Str} {p pos : Pos} {e : Expr} {es : List Expr} {t : TA}
/-- a def that may raise, called where it does not -/
theorem pe_clX0 (c : ClX X.prog X.w X.K X.mg X.base k x sp) (hr : Room j X.A) (hk : k ≤ j) (hg : Gl X x) (ha : PA X (e :: es) t)
    (hdb : (x == ("__debug__" : Str)) = false := by decide) (he : starEach (e :: es) X.env = (false, eval e X.env) :: starEach es X.env := by rfl) (hpl : (backTo pos (starEach es X.env)).any (·.1) = false := by rfl) :
    PE X (.Call (.Name x p) (e :: es) [] pos) (tCall sp [] E0 t) := by
  obtain ⟨f, fd, ps, F, hm, kp, b⟩ := c.ex
  exact pe_call F (hr.mono hk) hg hm kp b .nil passL ha hdb he hpl
end
end PL

/-! PXO: what the top has written of those of the ten classes that stand there. -/
namespace PL
open PySem PySem.Spec PyProof.Rows L2
/-- the classes that stand at the top -/
def xnOn (c : Xn) : Bool := [Xn.StoneError, Xn.NoStones, Xn.NoStone, Xn.NoLaying, Xn.NoChain, Xn.NoSide, Xn.NoFit, Xn.NoDeed, Xn.Full, Xn.NoText].contains c
/-- what the top has written of the classes -/
structure XT (K : PySem.W.Frag) (mg : Str → Option Value) (xa : XA) : Prop where
  g : ∀ c : Xn, xnOn c = true → mg c.str = some (.ref (xa c))
  k : ∀ c : Xn, xnOn c = true → PySem.W.keepIn K (.ref (xa c)) = true
  ec : ∀ c : Xn, xnOn c = true → ExcC K (xa c)
  ty : ∀ c : Xn, xnOn c = true → PySem.W.typeIn K (.ref (xa c)) = some (.type "type")
  ic : ∀ c : Xn, xnOn c = true → PySem.W.isClsIn K (xa c) = true
  ei : ∀ c : Xn, xnOn c = true → PySem.W.excIn K (xa c) veMro "ValueError.__new__" = true
  sub : ∀ c d : Xn, xnOn c = true → xnOn d = true → PySem.W.subIn K (.ref (xa c)) (.ref (xa d)) = some (Xn.sub c d)
  subV : ∀ c : Xn, xnOn c = true → PySem.W.subIn K (.ref (xa c)) (.type "ValueError") = some true
  subN : ∀ d : Xn, xnOn d = true → PySem.W.subIn K (.type "NoneType") (.ref (xa d)) = some false
section
variable {K : PySem.W.Frag} {mg : Str → Option Value} {xa : XA}
theorem XT.cls (T : XT K mg xa) (t : Value) (d : Xn) (hd : xnOn d = true) : PySem.W.kitCls K t (.ref (xa d)) = PySem.W.subIn K t (.ref (xa d)) := by
  have h1 : (PySem.W.clsIn K (xa d)).isSome = true := T.ic d hd
  have h2 := T.ty d hd
  show (if ((PySem.W.clsIn K (xa d)).isSome && PySem.W.typeIn K (.ref (xa d)) == some (.type "type")) = true then PySem.W.subIn K t (.ref (xa d)) else none) = _
  rw [h1, h2]
  rfl
theorem XT.one (T : XT K mg xa) (c d : Xn) (hc : xnOn c = true := by rfl) (hd : xnOn d = true := by rfl) : PySem.W.kitOne K (.ref (xa c)) (.ref (xa d)) = some (Xn.sub c d) := by
  have key : PySem.W.kitCls K (.ref (xa c)) (.ref (xa d)) = some (Xn.sub c d) := (T.cls _ d hd).trans (T.sub c d hc hd)
  show (if (Value.ref (xa c) == Value.ref (xa d)) = true then some true else PySem.W.kitCls K (.ref (xa c)) (.ref (xa d))) = _
  split
  · rename_i e
    have e : xa c = xa d := by simpa using e
    have h1 := T.sub c d hc hd
    have h2 := T.sub c c hc hc
    rw [← e, h2, Xn.sub_self] at h1
    exact h1
  · exact key
theorem XT.oneN (T : XT K mg xa) (d : Xn) (hd : xnOn d = true := by rfl) : PySem.W.kitOne K (.type "NoneType") (.ref (xa d)) = some false := by
  show (if (Value.type "NoneType" == Value.ref (xa d)) = true then some true else PySem.W.kitCls K (.type "NoneType") (.ref (xa d))) = _
  rw [if_neg (by simp)]
  exact (T.cls _ d hd).trans (T.subN d hd)
theorem XT.oneV (T : XT K mg xa) (c : Xn) (hc : xnOn c = true := by rfl) : PySem.W.kitOne K (.ref (xa c)) (.type "ValueError") = some true := by
  show (if (Value.ref (xa c) == Value.type "ValueError") = true then some true else PySem.W.kitCls K (.ref (xa c)) (.type "ValueError")) = _
  rw [if_neg (by simp)]
  show (if PySem.W.kitMeta "ValueError" = true then PySem.W.subIn K (.ref (xa c)) (.type "ValueError") else none) = _
  rw [if_pos (by decide +kernel)]
  exact T.subV c hc
theorem XT.exm (T : XT K mg xa) (c d : Xn) (hc : xnOn c = true := by rfl) (hd : xnOn d = true := by rfl) : PySem.W.exmOne K (.ref (xa c)) (.ref (xa d)) = some (Xn.sub c d) := PySem.W.exm_ref (T.ec d hd).hs (T.ec d hd).hd (T.ty d hd) (T.sub c d hc hd)
theorem XT.any (T : XT K mg xa) (c : Xn) : ∀ (ds : List Xn) (hc : xnOn c = true := by rfl) (hd : ds.all xnOn = true := by rfl), PySem.W.kitAny K (.ref (xa c)) (ds.map fun d => .ref (xa d)) = some (ds.any (Xn.sub c))
  | [], _, _ => rfl
  | d :: ds, hc, hd => by
    rw [List.all_cons, Bool.and_eq_true] at hd
    exact kitAny_cons (b := Xn.sub c d) (T.one c d hc hd.1) (fun e => by rw [XT.any T c ds hc hd.2, List.any_cons, e]; rfl) (fun e => by rw [List.any_cons, e]; rfl)
theorem XT.anyN (T : XT K mg xa) : ∀ (ds : List Xn) (hd : ds.all xnOn = true := by rfl), PySem.W.kitAny K (.type "NoneType") (ds.map fun d => .ref (xa d)) = some false
  | [], _ => rfl
  | d :: ds, hd => by
    rw [List.all_cons, Bool.and_eq_true] at hd
    exact kitAny_cons (b := false) (T.oneN d hd.1) (fun e => XT.anyN T ds hd.2) (fun e => by cases e)
end
end PL

/-! PTup: t[::-1] of a pair; slices of lists, text and data. -/
namespace PL
open PySem PySem.Spec PyProof.Rows L2 HT
section
variable {prog : Program} {w : World} {A : Around} {E : Value → Shared → Prop} {s : Shared}
theorem applied_rev {sl : Addr} {vl vu vs : Value} {Q : Int × Int × Nat → Shared → Prop} (hs : s.heap.IsSliceOf sl vl vu vs) (pl : IsPart vl none) (pu : IsPart vu none) (ps : IsPart vs (some (-1)))
    (h : Q ((1 : Int), (-1 : Int), 2) s) : wpAny (model prog w) A (Builtin.Slice.sliceApplied (.ref sl) (pure ((2 : Nat) : Int))) Q E s := by
  obtain ⟨os, hos, hcs, hds⟩ := id hs
  unfold Builtin.Slice.sliceApplied Builtin.Slice.sliceFields
  refine wpAny_bind (wpAny_bind (wpAny_field hos hds (x := vl) rfl (wpAny_bind (wpAny_field hos hds (x := vu) rfl (wpAny_bind (wpAny_field hos hds (x := vs) rfl (wpAny_pure ?_)))))))
  refine wpAny_bind (slicePart_ ps ?_)
  show wpAny _ _ (if ((-1 : Int) == 0) = true then _ else _) _ _ s
  rw [if_neg (by decide)]
  refine wpAny_bind (slicePart_ pl (wpAny_bind (slicePart_ pu (wpAny_bind (wpAny_pure ?_)))))
  exact wpAny_pure h
theorem getItem_pair_rev {t sl : Addr} {x y : Value} {vl vu vs : Value} {Q : Value → Shared → Prop} (ht : IsTup s.heap t #[x, y]) (hs : s.heap.IsSliceOf sl vl vu vs) (pl : IsPart vl none) (pu : IsPart vu none) (ps : IsPart vs (some (-1)))
    (h : Q (.ref s.heap.objs.size) { s with heap := s.heap.push { cls := .type "tuple", data := .seq #[y, x] } }) : wpAny (model prog w) A (getItem (.ref t) (.ref sl)) Q E s := by
  have htake : sizeOk (.seq #[y, x]) := by
    show 2 ≤ sizeLine
    decide
  obtain ⟨os, hos, hcs, hds⟩ := id hs
  have hTs : s.TypeIs (.ref sl) "slice" := ⟨os, hos, hcs⟩
  unfold getItem
  try with_reducible refine wpAny_holding ?_
  first | refine wpAny_bind (wpAny_pure ?_) | skip
  refine wpAny_bind (wpAny_sequenceKey ht.typeIs (by decide) ?_)
  refine wpAny_bind (wpAny_callSpecial?_slot (name := Str.ofString "__getitem__") ht.typeIs PyProof.Rows.slot_tuple_getitem
    (wpAny_call_entry PyProof.Rows.slot_tuple_getitem ht.typeIs entry_tuple_getitem ?_ (args_tuple_getitem _ _)))
  show wpAny _ _ (Builtin.Tuple.tupleItemsOf (.ref t) >>= _) _ _ s
  refine wpAny_bind (tupleItemsOf_ ht ?_)
  refine wpAny_bind (wpAny_typeOf hTs ?_)
  rw [if_pos (by decide)]
  refine wpAny_bind (applied_rev hs pl pu ps ?_)
  show wpAny _ _ (if (((1 : Int) == 0) && ((-1 : Int) == 1) && (2 == (#[x, y] : Array Value).size)) = true then _ else _) _ _ s
  rw [if_neg (by show ¬ (false && _ && _) = true; simp)]
  have e : ((List.range 2).filterMap fun (k : Nat) => (#[x, y] : Array Value)[((1 : Int) + (k : Int) * (-1)).toNat]?).toArray = #[y, x] := rfl
  rw [e]
  first
    | exact wpAny_bind (m := Builtin.Tuple.tupleExact _) (wpAny_newObj_type (wpAny_pure ⟨_, rfl, wpAny_pure h⟩) htake)
    | exact wpAny_bind (m := Builtin.Tuple.tupleExact _) (wpAny_newObj_type (wpAny_bind (wpAny_pure (wpAny_pure ⟨_, rfl, wpAny_pure h⟩))) htake)
    | exact wpAny_bind (wpAny_bind (m := Builtin.Tuple.tupleExact _) (wpAny_newObj_type (wpAny_pure (wpAny_pure ⟨_, rfl, wpAny_pure h⟩)) htake))
    | exact wpAny_bind (wpAny_bind (m := Builtin.Tuple.tupleExact _) (wpAny_newObj_type (wpAny_pure ⟨_, rfl, wpAny_pure h⟩) htake))
end
/-- t[::-1], t a pair -/
def tRevT (K : PySem.W.Frag) (te : TE) : TE := fun σ H Q => te σ H fun x H1 => ∃ a u v, x = .ref a ∧ SqT K H1 a [u, v] ∧ ∀ p, H1 p = none → Q (.ref p) (upd H1 p (.tup [v, u]))
theorem pe_revT {X : Cx} {e : Expr} {te : TE} {k : Nat} {p1 p2 p3 pos : Pos} (he : PE X e te) : PE X (.Subscript e (.Slice none none (some (.UnaryOp .USub (.Constant (.int 1) k p1) p2)) p3) pos) (tRevT X.K te) := by
  refine ⟨fun pins s σ H Q I h => ?_⟩
  refine Subscript_ (thn (he.run pins s σ H _ I h) fun v s1 ⟨x, H1, I1, r1, q1⟩ => ?_)
  obtain ⟨a, xu, xv, ex, hx, q⟩ := q1
  subst ex
  cases r1
  have hst : PO X (some (.UnaryOp .USub (.Constant (.int 1) k p1) p2)) (tPart (tUn (rU fun i => .int (-i)) (tC (.int 1)))) := po_some (pe_un un_neg pe_int)
  refine wpAny_Slice (thn (po_none.run pins s1 σ H1 (fun o H2 => o = none ∧ H2 = H1) I1 ⟨rfl, rfl⟩) fun vl s2 ⟨l, H2, I2, pl, el, e2⟩ => ?_)
  subst el e2
  refine thn (po_none.run pins s2 σ H2 (fun o H3 => o = none ∧ H3 = H2) I2 ⟨rfl, rfl⟩) fun vu s3 ⟨u, H3, I3, pu, eu, e3⟩ => ?_
  subst eu e3
  refine thn (hst.run pins s3 σ H3 (fun o H4 => o = some (-1) ∧ H4 = H3) I3 ⟨1, rfl, -1, rfl, rfl, rfl⟩) fun vs s4 ⟨o, H4, I4, ps, eo, e4⟩ => ?_
  subst eo e4
  have I5 : Inv X pins σ H4 { s4 with heap := s4.heap.push { cls := .type "slice", data := .fields #[vl, vu, vs] } } := I4.kept (t' := s4.toks) fun b ob q => Heap.get?_push_of_some _ q
  obtain ⟨its, r, ht, hz⟩ := I5.tuple hx
  obtain ⟨u1, u2, rfl, r1, r2⟩ : ∃ u1 u2, its = [u1, u2] ∧ RelV xu u1 ∧ RelV xv u2 := by
    cases r with
    | cons p q =>
      cases q with
      | cons p' q' => cases q'; exact ⟨_, _, rfl, p, p'⟩
  show wpAny (model X.prog X.w) X.A (subscriptTail e (.Slice none none (some (.UnaryOp .USub (.Constant (.int 1) k p1) p2)) p3) (.ref a) (.ref s4.heap.objs.size)) (EP X pins σ Q) X.xe { s4 with heap := s4.heap.push { cls := .type "slice", data := .fields #[vl, vu, vs] } }
  refine tail_any (ops := [.ref a, .ref s4.heap.objs.size]) ht.typeIs (PyProof.Rows.slot_tuple_getitem.lookup) ?_ (by with_unfolding_all rfl)
  refine getItem_pair_rev ht (Heap.IsSliceOf.new _ vl vu vs) pl pu ps ?_
  refine ⟨.ref _, _, I5.laid (t' := s4.toks) (o := .tup [xv, xu]) (fun b ob q => Heap.get?_push_of_some _ q) (Nat.le_refl _) ?_, rfl, q _ (I5.hok.fresh (Nat.le_refl _))⟩
  exact ⟨by show 2 ≤ sizeLine; decide, [u2, u1], .cons r2 (.cons r1 .nil), IsTup.new _ _⟩

/-! ### on data -/
section
variable {E : Ent} {δ δ' : List Sl} {ta tb te tc : TE} {d x y : D}
theorem ev_revT {x y : D} (ha : Ev E ta δ (.tuple [x, y])) : Ev E (tRevT E.K ta) δ (.tuple [y, x]) := fun σ G H Q s k => ha σ G H _ s fun v G1 H1 g r => by
  obtain ⟨a, vs, e, h1, u, r1, e2, h2, u2, r2, e3, h3, e4⟩ := r
  subst e e2 e3 e4
  refine ⟨a, u, u2, rfl, sqT_of g.i h1, fun p hp => ?_⟩
  have gr : Gr G1 H1 (upd G1 p (.tup [u2, u])) (upd H1 p (.tup [u2, u])) := Gr.new g.i hp
  exact k _ _ _ (g.trans gr) ⟨p, [u2, u], rfl, upd_same, u2, [u], rfl, Rp.mono gr.g _ _ h3, u, [], rfl, Rp.mono gr.g _ _ h2, rfl⟩
/-- a part of a slice -/
def Eo (E : Ent) (to : TO) (δ : List Sl) (o : Option Int) : Prop := ∀ σ G H (Q : Option Int → Hp → Prop), St E δ σ G H → (∀ G2 H2, Gr G H G2 H2 → Q o H2) → to σ H Q
theorem eo_no : Eo E tNoPart δ none := fun σ G H Q s k => k G H (Gr.refl s.i)
theorem eo_i {i : Int} (h : Ev E te δ (.int i)) : Eo E (tPart te) δ (some i) := fun σ G H Q s k => h σ G H _ s fun v G1 H1 g r => ⟨i, r, k G1 H1 g⟩
def cutD {α : Type} (xs : List α) (lo hi : Option Int) : List α := (xs.drop (HT.sIx xs.length 0 lo)).take (HT.sIx xs.length xs.length hi - HT.sIx xs.length 0 lo)
theorem evF_slL {xs : List D} {tl th : TO} {lo hi : Option Int} (ha : Ev E ta δ (.list xs)) (hl : Eo E tl δ lo) (hh : Eo E th δ hi) : EvF E (tSl (rSlL E.K) ta tl th) δ (cutD xs lo hi) := fun σ G H Q s k =>
  ha σ G H _ s fun v G1 H1 g1 r => hl σ G1 H1 _ (s.grow g1) fun G2 H2 g2 => hh σ G2 H2 _ (s.grow (g1.trans g2)) fun G3 H3 g3 => by
    obtain ⟨a, vs, e, h1, h2⟩ := r
    subst e
    have g := (g1.trans g2).trans g3
    have h1' := (g2.g.trans g3.g) _ _ h1
    have h2' := RpA.mono (g2.g.trans g3.g) _ _ h2
    refine ⟨a, vs, rfl, sqL_of g3.i h1', fun p hp => ?_⟩
    refine k p _ G3 _ (g.trans (Gr.side g3.i (same_new hp))) (g.h.free hp) (g3.i.free hp) upd_same ?_
    unfold cutV cutD
    rw [h2'.len]
    exact (h2'.drop _).take _
theorem sIx_nat (n d j : Nat) : HT.sIx n d (some (j : Int)) = min j n := by
  unfold HT.sIx
  simp
  try omega
theorem cut_to {α : Type} (xs : List α) (j : Nat) : cutD xs none (some (j : Int)) = xs.take j := by
  unfold cutD
  rw [sIx_nat]
  show (xs.drop 0).take (min j xs.length - 0) = _
  rw [List.drop_zero, Nat.sub_zero]
  by_cases h : j ≤ xs.length
  · rw [Nat.min_eq_left h]
  · rw [Nat.min_eq_right (by omega), List.take_length, List.take_of_length_le (by omega)]
theorem cut_from {α : Type} (xs : List α) (j : Nat) : cutD xs (some (j : Int)) none = xs.drop j := by
  unfold cutD
  rw [sIx_nat]
  show (xs.drop (min j xs.length)).take (xs.length - min j xs.length) = _
  by_cases h : j ≤ xs.length
  · rw [Nat.min_eq_left h, List.take_of_length_le (by rw [List.length_drop]; exact Nat.le_refl _)]
  · rw [Nat.min_eq_right (by omega), List.drop_length, List.take_nil, List.drop_of_length_le (by omega)]
end
end PL

/-! PBent: own lists of own lists changed in every way: items set, popped, put in, slices stored; borrowed lists; the tree behind it. -/
namespace PL
open PySem PySem.Spec PyProof.Rows L2
/-! ### xs[a:c] = ys -/
def gSlT (to : TE) (tlo thi : TO) : TG := fun v σ H Q => to σ H fun o H1 => tlo σ H1 fun a H2 => thi σ H2 fun c H3 => ∃ p q xs ys i j, o = .ref p ∧ v = .ref q ∧ a = some i ∧ c = some j ∧ H3 p = some (.lst xs) ∧ H3 q = some (.lst ys) ∧ p ≠ q ∧ 0 ≤ i ∧ i ≤ j ∧ j ≤ (xs.length : Int) ∧ xs.length + ys.length ≤ sizeLine ∧ Q σ (upd H3 p (.lst (xs.take i.toNat ++ ys ++ xs.drop j.toNat)))
theorem pg_slT {X : Cx} {o lo hi : Expr} {to : TE} {tlo thi : TO} {p2 pos : Pos} (ho : PE X o to) (hl : PO X (some lo) tlo) (hh : PO X (some hi) thi)
    (ha : ∀ v, assign (.Subscript o (.Slice (some lo) (some hi) none p2) pos) X.env v = (do
      let ov ← holding [v] (eval o X.env)
      let iv ← holding [v, ov] (eval (.Slice (some lo) (some hi) none p2) X.env)
      standAt pos
      holding [v, ov, iv] (setItem ov iv v)
      release [iv, v, ov] []) := by intro _; rfl) : PG X (.Subscript o (.Slice (some lo) (some hi) none p2) pos) (gSlT to tlo thi) := by
  refine ⟨fun pins s σ H v u Q I r h => ?_⟩
  rw [ha]
  refine wpAny_bind (wpAny_holding (thn (ho.run pins s σ H _ I h) fun ov s1 ⟨x, H1, I1, r1, q1⟩ => ?_))
  refine wpAny_bind (wpAny_holding ?_)
  refine wpAny_Slice (thn (hl.run pins s1 σ H1 _ I1 q1) fun vl s2 ⟨a, H2, I2, pl, q2⟩ => ?_)
  refine thn (hh.run pins s2 σ H2 _ I2 q2) fun vu s3 ⟨c, H3, I3, pu, q3⟩ => ?_
  refine thn (po_none.run pins s3 σ H3 (fun o H4 => o = none ∧ H4 = H3) I3 ⟨rfl, rfl⟩) fun vs s4 ⟨o, H4, I4, ps, eo, e4⟩ => ?_
  subst eo e4
  obtain ⟨p, q, xs, ys, i, j, ex, ev, ea, ec, hp, hq, ne, h0, h1, h2, hz, q5⟩ := q3
  subst ex ev ea ec
  cases r1
  cases r
  cases pl with
  | int i ta =>
    cases pu with
    | int j tc =>
      cases ps with
      | none =>
        have I5 : Inv X pins σ H4 { s4 with heap := s4.heap.push { cls := .type "slice", data := .fields #[.int i ta, .int j tc, .none] } } := I4.kept (t' := s4.toks) fun b ob q => Heap.get?_push_of_some _ q
        refine wpAny_bind (wpAny_standAt (wpAny_bind (wpAny_holding ?_)))
        refine set_slice I5 hp hq ne (Heap.IsSliceOf.new _ _ _ _) ⟨ta, rfl⟩ ⟨tc, rfl⟩ h0 h1 h2 hz fun s6 I6 => ?_
        exact wpAny_release ⟨σ, _, I6, q5⟩

/-! ### regions -/
theorem NestR.grow {G G2 F F2 : Hp} (e : Same G G2) (f : Same F F2) : ∀ {ts : List Addr} {xss : List (List D)}, NestR G F ts xss → NestR G2 F2 ts xss
  | [], [], _ => trivial
  | t :: ts, xs :: xss, ⟨⟨vs, h1, h2⟩, h⟩ => ⟨⟨vs, f _ _ h1, RpA.mono e _ _ h2⟩, NestR.grow e f h⟩
  | [], _ :: _, h => nomatch h
  | _ :: _, [], h => nomatch h
theorem nest_rpA {G F : Hp} (off : ∀ a, F a ≠ none → G a = none) : ∀ {ts : List Addr} {xss : List (List D)}, NestR G F ts xss → RpA (jn G F) (xss.map .list) (ts.map V.ref)
  | [], [], _ => rfl
  | t :: ts, xs :: xss, ⟨⟨vs, h1, h2⟩, h⟩ => ⟨.ref t, ts.map V.ref, rfl, ⟨t, vs, rfl, jn_r off _ _ h1, RpA.mono jn_l _ _ h2⟩, nest_rpA off h⟩
  | [], _ :: _, h => nomatch h
  | _ :: _, [], h => nomatch h
/-- an own tree whose leaves may be known -/
def mix (d : D) : Sl := .ob fun G F v => (∀ a, F a ≠ none → G a = none) → Rp (jn G F) d v
section
variable {E : Ent} {δ δ' : List Sl} {ta tb te tc : TE} {tt : TT} {d x y : D} {Φ : Out → Prop} {u : TS} {t : TA}
theorem xs_shareMix {i : Nat} (o : δ[i]? = some (mix d)) (h : Xs E u (δ.set i (.d d)) Φ) : Xs E u δ Φ := fun σ G H X s p => by
  obtain ⟨F, _, _, s'⟩ := s.shareG (d := d) o fun F v q off => q off
  exact h σ _ H X s' fun o q => (p o q).mono jn_l
theorem St.nestOut {σ : L2.St} {G H G2 H2 H3 : Hp} {i : Nat} {xss : List (List D)} {p : Addr} {ts : List Addr} {F : Nat → Hp} {ws : List V} {ds : List D} (s : St E δ σ G H) (ho : σ[i]? = some (some (.ref p))) (q : Reg E δ σ G H F)
    (h1 : F i p = some (.lst (ts.map V.ref))) (h3 : (p :: ts).Nodup) (h4 : NestR G (F i) ts xss) (g : Gr G H G2 H2) (e1 : H3 p = some (.lst ws)) (e2 : ∀ b, b ≠ p → H3 b = H2 b)
    (hw : ∀ Gx, Same G2 Gx → RpA Gx (xss.map .list) (ts.map V.ref) → RpA Gx ds ws) : St E (δ.set i (mix (.list ds))) σ G2 H3 := by
  have hp := q.in_ i _ _ h1
  have z := q.out i p (by rw [h1]; simp)
  have gp2 : G2 p = none := g.n p (by rw [hp]; simp) z.1
  have i3 : Same G2 H3 := fun a o h => by rw [e2 a (ne_of_none h gp2)]; exact g.i a o h
  have np : ¬ p ∈ ts := (List.nodup_cons.mp h3).1
  have := q.step s.i i (mix (.list ds)) (some (.ref p)) (upd (F i) p (.lst ws)) g.g i3 g.n (fun b o hb hf => by
    have ne : b ≠ p := fun e => by rw [e, h1] at hf; cases hf
    rw [e2 b ne]; exact g.h b o hb) (fun b o hb => by
    by_cases e : b = p
    · subst e; rw [upd_same] at hb; rw [e1]; exact hb
    · rw [upd_ne e] at hb; rw [e2 b e]; exact g.h _ _ (q.in_ i b o hb)) (fun b hb => by
    by_cases e : b = p
    · subst e; exact ⟨gp2, z.2⟩
    · rw [upd_ne e] at hb
      have y := q.out i b hb
      exact ⟨g.n b (not_none (q.in_ i) hb) y.1, y.2⟩) (fun b hb => by
    by_cases e : b = p
    · subst e; exact .inl (by rw [h1]; simp)
    · rw [upd_ne e] at hb; exact .inl hb) ⟨.ref p, rfl, fun G' eg off => ⟨p, ws, rfl, jn_r off _ _ upd_same, hw _ (eg.trans jn_l) (nest_rpA off (h4.mono (g.g.trans eg) fun t ht => by rw [upd_ne (fun e => np (by rw [← e]; exact ht))]))⟩⟩
  rw [set_get ho] at this
  exact ⟨s.g.trans g.g, fun a o h => by
    have ne : a ≠ p := ne_of_none h z.2
    rw [e2 a ne]; exact g.h _ _ (s.h a o h), fun b hb gb => g.n b (not_none s.h hb) (s.n b hb gb), i3, by simp [s.len], _, this⟩
theorem St.nestIn {σ : L2.St} {G H G2 H2 H3 : Hp} {i j : Nat} {xss : List (List D)} {p t : Addr} {ts : List Addr} {F : Nat → Hp} {vs ws : List V} {ys : List D} (s : St E δ σ G H) (ho : σ[i]? = some (some (.ref p))) (q : Reg E δ σ G H F)
    (h1 : F i p = some (.lst (ts.map V.ref))) (h3 : (p :: ts).Nodup) (h4 : NestR G (F i) ts xss) (g : Gr G H G2 H2) (k1 : ts[j]? = some t) (k2 : F i t = some (.lst vs)) (e1 : H3 t = some (.lst ws)) (e2 : ∀ b, b ≠ t → H3 b = H2 b)
    (hw : RpA G2 ys ws) : St E (δ.set i (nest (xss.set j ys))) σ G2 H3 := by
  have ht := q.in_ i _ _ k2
  have z := q.out i t (by rw [k2]; simp)
  have gt2 : G2 t = none := g.n t (by rw [ht]; simp) z.1
  have i3 : Same G2 H3 := fun a o h => by rw [e2 a (ne_of_none h gt2)]; exact g.i a o h
  have htm : t ∈ ts := List.mem_of_getElem? k1
  obtain ⟨np, ntd⟩ := List.nodup_cons.mp h3
  have npt : p ≠ t := fun e => np (by rw [e]; exact htm)
  have := q.step s.i i (nest (xss.set j ys)) (some (.ref p)) (upd (F i) t (.lst ws)) g.g i3 g.n (fun b o hb hf => by
    have ne : b ≠ t := fun e => by rw [e, k2] at hf; cases hf
    rw [e2 b ne]; exact g.h b o hb) (fun b o hb => by
    by_cases e : b = t
    · subst e; rw [upd_same] at hb; rw [e1]; exact hb
    · rw [upd_ne e] at hb; rw [e2 b e]; exact g.h _ _ (q.in_ i b o hb)) (fun b hb => by
    by_cases e : b = t
    · subst e; exact ⟨gt2, z.2⟩
    · rw [upd_ne e] at hb
      have y := q.out i b hb
      exact ⟨g.n b (not_none (q.in_ i) hb) y.1, y.2⟩) (fun b hb => by
    by_cases e : b = t
    · subst e; exact .inl (by rw [k2]; simp)
    · rw [upd_ne e] at hb; exact .inl hb) ⟨.ref p, rfl, fun G' eg => ⟨p, ts, rfl, by rw [upd_ne npt]; exact h1, h3, NestR.set (RpA.mono eg _ _ hw) ntd (h4.mono (g.g.trans eg) fun _ _ => rfl) k1⟩⟩
  rw [set_get ho] at this
  exact ⟨s.g.trans g.g, fun a o h => by
    have ne : a ≠ t := ne_of_none h z.2
    rw [e2 a ne]; exact g.h _ _ (s.h a o h), fun b hb gb => g.n b (not_none s.h hb) (s.n b hb gb), i3, by simp [s.len], _, this⟩

/-! ### borrowed lists -/
def EvB (E : Ent) (te : TE) (δ : List Sl) (xs : List D) : Prop := ∀ σ G H (Q : VK), St E δ σ G H → (∀ a vs G2 H2, Gr G H G2 H2 → H2 a = some (.lst vs) → RpA G2 xs vs → Q (.ref a) H2) → te σ H Q
variable {xs ys : List D} {xss : List (List D)} {i j : Nat} {z : Int}
theorem evB_at (h0 : δ[i]? = some (nest xss)) (hb : Ev E tb δ (.int z)) (hj : z = (j : Int)) (hx : xss[j]? = some xs) : EvB E (tOp (rIxL E.K) (tVar i) tb) δ xs := fun σ G H Q s k => by
  obtain ⟨p, ts, F, ho, q, h1, h3, h4⟩ := s.atNest h0
  refine ⟨.ref p, ho, hb σ G H _ s fun y G1 H1 g1 r1 => ?_⟩
  subst hj
  have r1 : y = .int (j : Int) := r1
  subst r1
  obtain ⟨t, vs, k1, k2, k3⟩ := h4.get hx
  exact ⟨p, ts.map V.ref, (j : Int), .ref t, rfl, rfl, SqL.of (g1.h _ _ (q.in_ i _ _ h1)), atI_nat (by rw [List.getElem?_map, k1]; rfl), k t vs G1 H1 g1 (g1.h _ _ (q.in_ i _ _ k2)) (RpA.mono g1.g _ _ k3)⟩
theorem ev_ixB (ha : EvB E ta δ xs) (hb : Ev E tb δ (.int z)) (h : atI xs z = some d) : Ev E (tOp (rIxL E.K) ta tb) δ d := fun σ G H Q s k => ha σ G H _ s fun a vs G1 H1 g1 h1 r1 => hb σ G1 H1 _ (s.grow g1) fun y G2 H2 g2 r2 => by
  have r2 : y = .int z := r2
  subst r2
  obtain ⟨v, q1, q2⟩ := r1.atI h
  exact ⟨a, vs, z, v, rfl, rfl, SqL.of (g2.h _ _ h1), q1, k v G2 H2 (g1.trans g2) (Rp.mono g2.g _ _ q2)⟩
theorem ev_lenB (ha : EvB E ta δ xs) : Ev E (tCB (cLen E.K) (tCons ta tNil)) δ (.int (xs.length : Int)) := fun σ G H Q s k => ha σ G H _ s fun a vs G1 H1 g1 h1 r1 =>
  ⟨.ref a, vs.length, rfl, .inl ⟨vs, SqL.of h1, rfl⟩, by rw [r1.len]; exact k _ G1 H1 g1 rfl⟩
theorem evF_listB (ha : EvB E ta δ xs) : EvF E (tCB (cList E.K) (tCons ta tNil)) δ xs := fun σ G H Q s k => ha σ G H _ s fun a vs G1 H1 g1 h1 r1 =>
  ⟨a, vs, rfl, .inl (SqL.of h1), fun l hl => k l vs G1 _ (g1.trans (Gr.side g1.i (same_new hl))) (g1.h.free hl) (g1.i.free hl) upd_same r1⟩
theorem evF_revB (ha : EvB E ta δ xs) : EvF E (tRevL E.K ta) δ xs.reverse := fun σ G H Q s k => ha σ G H _ s fun a vs G1 H1 g1 h1 r1 =>
  ⟨a, vs, rfl, SqL.of h1, fun p hp => k p _ G1 _ (g1.trans (Gr.side g1.i (same_new hp))) (g1.h.free hp) (g1.i.free hp) upd_same r1.reverse⟩
theorem ev_tupB (ha : EvB E ta δ xs) : Ev E (tCB (cTuple E.K) (tCons ta tNil)) δ (.tuple xs) := fun σ G H Q s k => ha σ G H _ s fun a vs G1 H1 g h1 r1 => by
  refine ⟨a, vs, rfl, .inl ⟨SqL.of h1, fun l hl => ?_⟩⟩
  have gr : Gr G1 H1 (upd G1 l (.tup vs)) (upd H1 l (.tup vs)) := Gr.new g.i hl
  exact k _ _ _ (g.trans gr) ⟨l, vs, rfl, upd_same, RpA.mono gr.g _ _ r1⟩
theorem evF_slB {tl th : TO} {lo hi : Option Int} (ha : EvB E ta δ xs) (hl : Eo E tl δ lo) (hh : Eo E th δ hi) : EvF E (tSl (rSlL E.K) ta tl th) δ (cutD xs lo hi) := fun σ G H Q s k =>
  ha σ G H _ s fun a vs G1 H1 g1 h1 r => hl σ G1 H1 _ (s.grow g1) fun G2 H2 g2 => hh σ G2 H2 _ (s.grow (g1.trans g2)) fun G3 H3 g3 => by
    have g := (g1.trans g2).trans g3
    have h1' := (g2.h.trans g3.h) _ _ h1
    have h2' := RpA.mono (g2.g.trans g3.g) _ _ r
    refine ⟨a, vs, rfl, SqL.of h1', fun p hp => ?_⟩
    refine k p _ G3 _ (g.trans (Gr.side g3.i (same_new hp))) (g.h.free hp) (g3.i.free hp) upd_same ?_
    unfold cutV cutD
    rw [h2'.len]
    exact (h2'.drop _).take _

/-! ### the changes -/
/-- xss[i][k] = e -/
theorem xs_nestSet2 {k : Nat} {zk : Int} (h0 : δ[i]? = some (nest xss)) (ha : Ev E ta δ d) (hb : Ev E tb δ (.int z)) (hj : z = (j : Int)) (hx : xss[j]? = some xs) (hc : Ev E tc δ (.int zk)) (hk : zk = (k : Int)) (hl : k < xs.length)
    (n : Φ (.nx (δ.set i (nest (xss.set j (xs.set k d)))))) : Xs E (tAsg ta (gSub (tOp (rIxL E.K) (tVar i) tb) tc rSetL)) δ Φ := fun σ G H X s p => by
  refine ha σ G H _ s fun v G1 H1 g1 r1 => ?_
  have s1 := s.grow g1
  obtain ⟨q, ts, F, ho, qq, h1, h3, h4⟩ := s1.atNest h0
  refine ⟨.ref q, ho, hb σ G1 H1 _ s1 fun y G2 H2 g2 r2 => ?_⟩
  subst hj hk
  have r2 : y = .int (j : Int) := r2
  subst r2
  obtain ⟨t, vs, k1, k2, k3⟩ := h4.get hx
  refine ⟨q, ts.map V.ref, (j : Int), .ref t, rfl, rfl, SqL.of (g2.h _ _ (qq.in_ i _ _ h1)), atI_nat (by rw [List.getElem?_map, k1]; rfl), hc σ G2 H2 _ (s1.grow g2) fun w G3 H3 g3 r3 => ?_⟩
  have r3 : w = .int (k : Int) := r3
  subst r3
  have g := g2.trans g3
  have ht := g.h _ _ (qq.in_ i _ _ k2)
  refine ⟨t, vs, (k : Int), k, rfl, rfl, ht, by
    have : k < vs.length := by rw [k3.len]; exact hl
    unfold ixN; rw [if_pos (by omega), if_pos (by omega)]; simp, ?_⟩
  exact p _ n σ G3 _ (g1.g.trans g.g) (s1.nestIn (H3 := upd H3 t (.lst (vs.set k v))) ho qq h1 h3 h4 g k1 k2 upd_same (fun b hb => upd_ne hb) ((RpA.mono g.g _ _ k3).set (Rp.mono g.g _ _ r1) k))
/-- xss[i].pop(k) -/
theorem evM_nestPopAt {k : Nat} {zk : Int} (h0 : δ[i]? = some (nest xss)) (hb : Ev E tb δ (.int z)) (hj : z = (j : Int)) (hx : xss[j]? = some xs) (hc : Ev E tc δ (.int zk)) (hk : zk = (k : Int)) (hz : k < 100000) (hd : xs[k]? = some d) :
    EvM E (tBM E.K "list" rPopAt (tOp (rIxL E.K) (tVar i) tb) (tCons tc tNil)) δ (δ.set i (nest (xss.set j (xs.eraseIdx k)))) d := fun σ G H Q s c => by
  obtain ⟨q, ts, F, ho, qq, h1, h3, h4⟩ := s.atNest h0
  refine ⟨.ref q, ho, hb σ G H _ s fun y G2 H2 g2 r2 => ?_⟩
  subst hj hk
  have r2 : y = .int (j : Int) := r2
  subst r2
  obtain ⟨t, vs, k1, k2, k3⟩ := h4.get hx
  refine ⟨q, ts.map V.ref, (j : Int), .ref t, rfl, rfl, SqL.of (g2.h _ _ (qq.in_ i _ _ h1)), atI_nat (by rw [List.getElem?_map, k1]; rfl), .inl ⟨rfl, _, SqL.of (g2.h _ _ (qq.in_ i _ _ k2))⟩, hc σ G2 H2 _ (s.grow g2) fun w G3 H3 g3 r3 => ?_⟩
  have r3 : w = .int (k : Int) := r3
  subst r3
  have g := g2.trans g3
  have ht := g.h _ _ (qq.in_ i _ _ k2)
  have k3' := RpA.mono g.g _ _ k3
  obtain ⟨v, hv, rv⟩ := k3'.get hd
  have lt : k < vs.length := (List.getElem?_eq_some_iff.mp hv).1
  refine ⟨t, vs, (k : Int), k, v, rfl, rfl, ht, by omega, by omega, seqIx_nat lt, hv, ?_⟩
  exact c v G3 _ g.g (s.nestIn (H3 := upd H3 t (.lst (vs.eraseIdx k))) ho qq h1 h3 h4 g k1 k2 upd_same (fun b hb => upd_ne hb) (k3'.eraseIdx k)) rv
/-- xss[i].insert(k, e) -/
theorem evM_nestIns {k : Nat} {zk : Int} (h0 : δ[i]? = some (nest xss)) (hb : Ev E tb δ (.int z)) (hj : z = (j : Int)) (hx : xss[j]? = some xs) (hc : Ev E tc δ (.int zk)) (hk : zk = (k : Int)) (hz : k < 100000) (ha : Ev E ta δ d) (hl : xs.length < 100000) :
    EvM E (tBM E.K "list" oInsert (tOp (rIxL E.K) (tVar i) tb) (tCons tc (tCons ta tNil))) δ (δ.set i (nest (xss.set j (xs.take k ++ [d] ++ xs.drop k)))) .none := fun σ G H Q s c => by
  obtain ⟨q, ts, F, ho, qq, h1, h3, h4⟩ := s.atNest h0
  refine ⟨.ref q, ho, hb σ G H _ s fun y G2 H2 g2 r2 => ?_⟩
  subst hj hk
  have r2 : y = .int (j : Int) := r2
  subst r2
  obtain ⟨t, vs, k1, k2, k3⟩ := h4.get hx
  refine ⟨q, ts.map V.ref, (j : Int), .ref t, rfl, rfl, SqL.of (g2.h _ _ (qq.in_ i _ _ h1)), atI_nat (by rw [List.getElem?_map, k1]; rfl), .inl ⟨rfl, _, SqL.of (g2.h _ _ (qq.in_ i _ _ k2))⟩, hc σ G2 H2 _ (s.grow g2) fun w G3 H3 g3 r3 => ?_⟩
  have r3 : w = .int (k : Int) := r3
  subst r3
  refine ha σ G3 H3 _ (s.grow (g2.trans g3)) fun v G4 H4 g4 r4 => ?_
  have g := (g2.trans g3).trans g4
  have ht := g.h _ _ (qq.in_ i _ _ k2)
  have k3' := RpA.mono g.g _ _ k3
  refine ⟨t, vs, (k : Int), v, rfl, rfl, ht, by rw [k3'.len]; exact Nat.lt_of_lt_of_le hl (by decide), by omega, by omega, ?_⟩
  rw [Int.toNat_natCast]
  exact c .non G4 _ g.g (s.nestIn (H3 := upd H4 t (.lst (vs.take k ++ [v] ++ vs.drop k))) ho qq h1 h3 h4 g k1 k2 upd_same (fun b hb => upd_ne hb) (((k3'.take k).append (.one r4)).append (k3'.drop k))) rfl
/-- xss[i] = e -/
theorem xs_nestSet (h0 : δ[i]? = some (nest xss)) (ha : Ev E ta δ d) (hb : Ev E tb δ (.int z)) (hj : z = (j : Int)) (hx : j < xss.length)
    (n : Φ (.nx (δ.set i (mix (.list ((xss.map .list).set j d)))))) : Xs E (tAsg ta (gSub (tVar i) tb rSetL)) δ Φ := fun σ G H X s p => by
  refine ha σ G H _ s fun v G1 H1 g1 r1 => ?_
  have s1 := s.grow g1
  obtain ⟨q, ts, F, ho, qq, h1, h3, h4⟩ := s1.atNest h0
  refine ⟨.ref q, ho, hb σ G1 H1 _ s1 fun y G2 H2 g2 r2 => ?_⟩
  subst hj
  have r2 : y = .int (j : Int) := r2
  subst r2
  have hq := g2.h _ _ (qq.in_ i _ _ h1)
  refine ⟨q, ts.map V.ref, (j : Int), j, rfl, rfl, hq, by
    have : j < (ts.map V.ref).length := by rw [List.length_map, h4.len]; exact hx
    unfold ixN; rw [if_pos (by omega), if_pos (by omega)]; simp, ?_⟩
  exact p _ n σ G2 _ (g1.g.trans g2.g) (s1.nestOut (H3 := upd H2 q (.lst ((ts.map V.ref).set j v))) ho qq h1 h3 h4 g2 upd_same (fun b hb => upd_ne hb) fun Gx ex r => r.set (Rp.mono (g2.g.trans ex) _ _ r1) j)
/-- xss[i:j] = e -/
theorem xs_nestSl {ds : List D} {tl th : TO} {k : Nat} (h0 : δ[i]? = some (nest xss)) (ha : Ev E ta δ (.list ds)) (hb : Eo E tl δ (some (j : Int))) (hc : Eo E th δ (some (k : Int))) (hjk : j ≤ k) (hk : k ≤ xss.length) (hz : xss.length + ds.length ≤ 100000)
    (n : Φ (.nx (δ.set i (mix (.list ((xss.map .list).take j ++ ds ++ (xss.map .list).drop k)))))) : Xs E (tAsg ta (gSlT (tVar i) tl th)) δ Φ := fun σ G H X s p => by
  refine ha σ G H _ s fun v G1 H1 g1 r1 => ?_
  have s1 := s.grow g1
  obtain ⟨q, ts, F, ho, qq, h1, h3, h4⟩ := s1.atNest h0
  refine ⟨.ref q, ho, hb σ G1 H1 _ s1 fun G2 H2 g2 => hc σ G2 H2 _ (s1.grow g2) fun G3 H3 g3 => ?_⟩
  obtain ⟨b, us, e, hbu, ru⟩ := r1
  subst e
  have g := g2.trans g3
  have hq := g.h _ _ (qq.in_ i _ _ h1)
  have z := qq.out i q (by rw [h1]; simp)
  have ne : q ≠ b := fun e => by rw [← e, z.1] at hbu; cases hbu
  have ln : (ts.map V.ref).length = xss.length := by rw [List.length_map, h4.len]
  refine ⟨q, b, ts.map V.ref, us, (j : Int), (k : Int), rfl, rfl, rfl, rfl, hq, g.i _ _ (g.g _ _ hbu), ne, by omega, by omega, by rw [ln]; omega, by rw [ln, ru.len]; exact Nat.le_trans hz (by decide), ?_⟩
  rw [Int.toNat_natCast, Int.toNat_natCast]
  exact p _ n σ G3 _ (g1.g.trans g.g) (s1.nestOut (H3 := upd H3 q (.lst ((ts.map V.ref).take j ++ us ++ (ts.map V.ref).drop k))) ho qq h1 h3 h4 g upd_same (fun b hb => upd_ne hb) fun Gx ex r => ((r.take j).append (RpA.mono (g.g.trans ex) _ _ ru)).append (r.drop k))
/-- xss[i] = xss[i] + xss.pop(k) -/
theorem xs_nestJoin {k m : Nat} {zk : Int} {zs : List D} (h0 : δ[i]? = some (nest xss)) (hm : δ[m]? = some (.d (.int (j : Int)))) (hx : xss[j]? = some xs) (hc : Ev E tc δ (.int zk)) (hk : zk = (k : Int)) (hy : xss[k]? = some zs) (hjk : j < k) (hz : k < 100000) (hl : xs.length + zs.length ≤ 100000)
    (n : Φ (.nx (δ.set i (mix (.list (((xss.map .list).eraseIdx k).set j (.list (xs ++ zs)))))))) : Xs E (tAsg (tOp rCat (tOp (rIxL E.K) (tVar i) (tVar m)) (tBM E.K "list" rPopAt (tVar i) (tCons tc tNil))) (gSub (tVar i) (tVar m) rSetL)) δ Φ := fun σ G H X s p => by
  obtain ⟨q, ts, F, ho, qq, h1, h3, h4⟩ := s.atNest h0
  have hq0 := qq.in_ i _ _ h1
  obtain ⟨vm, hvm, rm⟩ := s.atD hm
  have rm : vm = .int (j : Int) := rm
  subst hk rm
  obtain ⟨t, vs, k1, k2, k3⟩ := h4.get hx
  obtain ⟨t', vs', m1, m2, m3⟩ := h4.get hy
  refine ⟨.ref q, ho, _, hvm, q, ts.map V.ref, (j : Int), .ref t, rfl, rfl, SqL.of hq0, atI_nat (by rw [List.getElem?_map, k1]; rfl), .ref q, ho, .inl ⟨rfl, _, SqL.of hq0⟩, hc σ G H _ s fun w G3 H3 g r3 => ?_⟩
  have r3 : w = .int (k : Int) := r3
  subst r3
  have hq := g.h _ _ hq0
  have htk : (ts.map V.ref)[k]? = some (.ref t') := by rw [List.getElem?_map, m1]; rfl
  have ltk : k < (ts.map V.ref).length := (List.getElem?_eq_some_iff.mp htk).1
  have np : ¬ q ∈ ts := (List.nodup_cons.mp h3).1
  have ntq : t ≠ q := fun e => np (by rw [← e]; exact List.mem_of_getElem? k1)
  have ntq' : t' ≠ q := fun e => np (by rw [← e]; exact List.mem_of_getElem? m1)
  have ht := g.h _ _ (qq.in_ i _ _ k2)
  have ht' := g.h _ _ (qq.in_ i _ _ m2)
  refine ⟨q, ts.map V.ref, (k : Int), k, .ref t', rfl, rfl, hq, by omega, by omega, seqIx_nat ltk, htk, t, t', vs, vs', rfl, rfl, by rw [upd_ne ntq]; exact ht, by rw [upd_ne ntq']; exact ht', by rw [k3.len, m3.len]; exact Nat.le_trans hl (by decide), fun a ha => ?_⟩
  have hqa : a ≠ q := fun e => by rw [e, upd_same] at ha; cases ha
  have ha3 : H3 a = none := by rw [upd_ne hqa] at ha; exact ha
  have ga : Gr G3 H3 (upd G3 a (.lst (vs ++ vs'))) (upd H3 a (.lst (vs ++ vs'))) := Gr.new g.i ha3
  have gg := g.trans ga
  have hl2 : j < ((ts.map V.ref).eraseIdx k).length := by
    rw [List.length_eraseIdx]
    simp only [ltk, if_true]
    omega
  refine ⟨.ref q, ho, _, hvm, q, (ts.map V.ref).eraseIdx k, (j : Int), j, rfl, rfl, by rw [upd_ne (Ne.symm hqa)]; exact upd_same, by unfold ixN; rw [if_pos (by omega), if_pos (by omega)]; simp, ?_⟩
  refine p _ n σ (upd G3 a (.lst (vs ++ vs'))) _ gg.g (s.nestOut ho qq h1 h3 h4 gg upd_same (fun b hb => ?_) fun Gx ex r => (r.eraseIdx k).set (show Rp Gx (.list (xs ++ zs)) (.ref a) from ⟨a, vs ++ vs', rfl, ex _ _ upd_same, (RpA.mono ((gg.g).trans ex) _ _ k3).append (RpA.mono ((gg.g).trans ex) _ _ m3)⟩) j)
  rw [upd_ne hb]
  by_cases e : b = a
  · subst e; rw [upd_same, upd_same]
  · rw [upd_ne e, upd_ne hb, upd_ne e]
/-- xss = [.. for ..], each item a new list -/
theorem xs_asgNestLc {α : Type} {wi : TI} {g : TG} (ls : List α) (enc : α → D) (val : α → List D) {vs : List Nat} {n : Nat} (hi : EvIc E wi δ (ls.map enc)) (hz : ls.length ≤ 100000)
    (turn : ∀ a, a ∈ ls → ∃ js δ2, (∀ j ∈ js, j ∈ vs) ∧ Tg E js g (enc a) (wipeS δ vs) δ2 ∧ EvF E te δ2 (val a)) (k : Φ (.nx (δ.set n (nest (ls.map val))))) : Xs E (tAsg (tLc wi g tYes te vs) (gName n)) δ Φ := fun σ G H X s p => hi σ G H _ s fun J G1 H1 g1 w => by
  intro Dl hD
  have s1 := s.grow g1
  have lenw : (ls.map enc).length = ls.length := List.length_map _
  have gD : G1 Dl = none := g1.i.free hD
  refine lc_it w (fun i H' => ∃ G' ts, Same G1 G' ∧ Same H1 H' ∧ Same G' H' ∧ (∀ a, H1 a ≠ none → G1 a = none → G' a = none) ∧ G' Dl = none ∧ H' Dl = some (.lst (ts.map V.ref)) ∧ NestR G' H' ts ((ls.take i).map val) ∧ (Dl :: ts).Nodup ∧ ∀ t ∈ ts, H1 t = none ∧ G' t = none) ⟨G1, [], Same.refl _, same_new hD, same_mut g1.i gD, fun _ _ h => h, gD, upd_same, trivial, by simp, fun _ h => absurd h (by simp)⟩ (fun i H' _ ⟨G', ts, e, eh, _⟩ => eh) (fun i v H' H2 hi' ⟨G', ts, e, eh, i', n', gd, hd, r, ndp, nw⟩ y => ?_) (fun H' ⟨G', ts, e, eh, i', n', gd, hd, r, ndp, nw⟩ => ?_)
  · obtain ⟨G2, x, hx, g2, rx⟩ := y G' e i'
    rw [lenw] at hi'
    have hx2 : x = enc ls[i] := by
      rw [List.getElem?_map, List.getElem?_eq_getElem hi'] at hx
      exact (Option.some.inj hx).symm
    subst hx2
    obtain ⟨js, δ2, hj, tg, elt⟩ := turn ls[i] (List.getElem_mem hi')
    have gr2 : Gr G1 H1 G2 H2 := (⟨e, eh, n', i'⟩ : Gr G1 H1 G' H').trans g2
    have s2 := (s1.grow gr2).wiped vs
    have tk : ls.take (i + 1) = ls.take i ++ [ls[i]] := by rw [List.take_succ, List.getElem?_eq_getElem hi']; rfl
    have hd2 : H2 Dl = some (.lst (ts.map V.ref)) := g2.h _ _ hd
    have gd2 : G2 Dl = none := g2.n Dl (by rw [hd]; simp) gd
    refine tg _ G2 H2 _ v s2 rx fun σ3 s3 wp => ⟨by rw [wp vs hj, wipe_wipe], et_yes (E := E) σ3 G2 H2 _ s3 fun G3 H3 g3 => ?_⟩
    rw [if_pos rfl]
    have gd2 : G3 Dl = none := g3.n Dl (by rw [hd2]; simp) gd2
    have hd2 : H3 Dl = some (.lst (ts.map V.ref)) := g3.h _ _ hd2
    have gr2 := gr2.trans g3
    have g2 := g2.trans g3
    refine elt σ3 G3 H3 _ (s3.grow g3) fun q us G4 H4 g4 hq gq hq4 rz => ?_
    have gr4 := gr2.trans g4
    have hd4 : H4 Dl = some (.lst (ts.map V.ref)) := g4.h _ _ hd2
    have gd4 : G4 Dl = none := g4.n Dl (by rw [hd2]; simp) gd2
    have nq : Dl ≠ q := fun e => by rw [← e, hd2] at hq; cases hq
    have hts : ∀ t ∈ ts, H' t ≠ none := fun t ht => by
      obtain ⟨j, hj⟩ := List.mem_iff_getElem?.mp ht
      have lt : j < ((ls.take i).map val).length := by rw [← r.len]; exact (List.getElem?_eq_some_iff.mp hj).1
      obtain ⟨t', vs', m1, m2, _⟩ := r.get (List.getElem?_eq_getElem lt)
      rw [hj] at m1; cases m1
      rw [m2]; simp
    have nqt : ¬ q ∈ ts := fun c => absurd hq (not_none g2.h (hts q c))
    refine ⟨ts.map V.ref, hd4, ?_, G4, ts ++ [q], gr4.g, same_mut gr4.h hD, same_mut gr4.i gd4, gr4.n, gd4, by rw [List.map_append]; exact upd_same, ?_, ?_, fun t ht => ?_⟩
    · rw [List.length_map, r.len, List.length_map, List.length_take]
      have h3 : (100000 : Nat) < sizeLine := by decide
      omega
    · rw [tk, List.map_append]
      have np : ¬ Dl ∈ ts := (List.nodup_cons.mp ndp).1
      refine NestR.snoc ⟨us, by rw [upd_ne (Ne.symm nq)]; exact hq4, rz⟩ ((r.grow (g2.g.trans g4.g) (g2.h.trans g4.h)).mono (Same.refl _) fun t ht => upd_ne (fun e => np (by rw [← e]; exact ht)))
    · rw [← List.cons_append, List.nodup_append]
      exact ⟨ndp, by simp, fun x hx y hy e => by
        rw [List.mem_singleton] at hy
        rw [hy] at e
        rcases List.mem_cons.mp hx with c | c
        · exact nq (c.symm.trans e)
        · exact nqt (by rw [← e]; exact c)⟩
    · rcases List.mem_append.mp ht with c | c
      · exact ⟨(nw t c).1, (g2.trans g4).n t (hts t c) (nw t c).2⟩
      · rw [List.mem_singleton] at c
        subst c
        exact ⟨gr2.h.free hq, gq⟩
  · rw [lenw, List.take_length] at r
    have gall : Gr G H G' H' := ⟨g1.g.trans e, g1.h.trans eh, fun a ha ga => n' a (fun z => by
      cases q : H a with
      | none => exact ha q
      | some o => rw [g1.h a o q] at z; cases z) (g1.n a ha ga), i'⟩
    refine p _ k _ G' H' gall.g (s.put gall n (nest (ls.map val)) (some (.ref Dl)) (fun a => if a ∈ Dl :: ts then H' a else none) (fun a o h => ?_) (fun a h => ?_) ⟨_, rfl, fun Gx ex => ⟨Dl, ts, rfl, ?_, ndp, ?_⟩⟩)
    · dsimp only at h
      split at h
      · exact h
      · cases h
    · split at h
      · rename_i c
        rcases List.mem_cons.mp c with c | c
        · subst c; exact ⟨g1.h.free hD, gd⟩
        · exact ⟨g1.h.free (nw a c).1, (nw a c).2⟩
      · exact absurd rfl h
    · simp only [List.mem_cons, true_or, if_true]; exact hd
    · exact r.mono ex fun t ht => by simp [ht]
end
end PL

/-! PObj: own structures handed to defs that change them (spM), or that read them alone (spB). -/
namespace PL
open PySem PySem.Spec PyProof.Rows L2
/-- an expression that may change own things; r tells of its value -/
def EvR (E : Ent) (te : TE) (δ δ' : List Sl) (r : Sl) : Prop := ∀ σ G H (Q : VK), St E δ σ G H → (∀ v G2 H2, Same G G2 → St E (δ' ++ [r]) (σ ++ [some v]) G2 H2 → Q v H2) → te σ H Q
/-- an expression that changes nothing; r tells of its value -/
def EvO (E : Ent) (te : TE) (δ : List Sl) (r : Sl) : Prop := ∀ σ G H (Q : VK), St E δ σ G H → (∀ v F G2 H2, Gr G H G2 H2 → Same F H2 → (∀ a, F a ≠ none → H a = none ∧ G2 a = none) → SlR E G2 F r (some v) → Q v H2) → te σ H Q
section
variable {E : Ent} {δ δ' ε : List Sl} {σ τ : L2.St} {G H G2 H2 : Hp} {te ta tb : TE} {d : D} {r : Sl} {Φ : Out → Prop} {u : TS} {o : Option V}
theorem St.front (s : St E (δ ++ ε) (σ ++ τ) G H) (hl : σ.length = δ.length) : St E δ σ G H := by
  obtain ⟨F, q⟩ := s.rg
  refine ⟨s.g, s.h, s.n, s.i, hl, F, q.in_, q.out, q.ap, fun j t o h1 h2 => q.sl j t o ?_ ?_⟩
  · rw [List.getElem?_append_left (List.getElem?_eq_some_iff.mp h1).1]; exact h1
  · rw [List.getElem?_append_left (List.getElem?_eq_some_iff.mp h2).1]; exact h2
theorem St.len1 (s : St E (δ ++ [r]) (σ ++ [o]) G H) : σ.length = δ.length := by
  have := s.len
  simpa using this
theorem St.last (s : St E (δ ++ [r]) (σ ++ [o]) G H) : ∃ F, Same F H ∧ (∀ a, F a ≠ none → G a = none ∧ E.H a = none) ∧ SlR E G F r o := by
  have hl := s.len1
  obtain ⟨F, q⟩ := s.rg
  refine ⟨F δ.length, q.in_ _, q.out _, q.sl δ.length r o (by simp) ?_⟩
  rw [← hl]; simp
/-- the value is put into a slot -/
theorem St.setLast (s : St E (δ ++ [r]) (σ ++ [o]) G H) (i : Nat) : St E (δ.set i r) (σ.set i o) G H := by
  have hl := s.len1
  have s0 := s.front hl
  obtain ⟨F, q⟩ := s.rg
  have hr : SlR E G (F δ.length) r o := q.sl δ.length r o (by simp) (by rw [← hl]; simp)
  by_cases hi : i < δ.length
  · refine ⟨s.g, s.h, s.n, s.i, by simp [hl], fun j => if j = i then F δ.length else if j = δ.length then none0 else F j, fun j => ?_, fun j a h => ?_, fun j k a ne h => ?_, fun j t o' h1 h2 => ?_⟩
    · split
      · exact q.in_ _
      · split
        · exact fun _ _ z => nomatch z
        · exact q.in_ _
    · split at h
      · exact q.out _ a h
      · split at h
        · exact absurd rfl h
        · exact q.out _ a h
    · by_cases e1 : j = i
      · rw [if_pos e1] at h
        by_cases e2 : k = i
        · exact absurd (e1.trans e2.symm) ne
        · rw [if_neg e2]
          split
          · rfl
          · rename_i e3
            exact q.ap _ k a (Ne.symm e3) h
      · rw [if_neg e1] at h
        by_cases e4 : j = δ.length
        · rw [if_pos e4] at h; exact absurd rfl h
        · rw [if_neg e4] at h
          by_cases e2 : k = i
          · rw [if_pos e2]; exact q.ap j _ a e4 h
          · rw [if_neg e2]
            split
            · rfl
            · exact q.ap j k a ne h
    · by_cases e1 : j = i
      · subst e1
        simp only [if_true]
        rw [List.getElem?_set] at h1 h2
        simp only [if_true] at h1 h2
        rw [if_pos hi] at h1
        rw [if_pos (by rw [hl]; exact hi)] at h2
        cases h1; cases h2
        exact hr
      · rw [List.getElem?_set_ne (Ne.symm e1)] at h1 h2
        have lt := (List.getElem?_eq_some_iff.mp h1).1
        simp only [e1, if_false, Nat.ne_of_lt lt]
        exact q.sl j t o' (by rw [List.getElem?_append_left lt]; exact h1) (by rw [List.getElem?_append_left (by rw [hl]; exact lt)]; exact h2)
  · have e1 : δ.set i r = δ := List.set_eq_of_length_le (by omega)
    have e2 : σ.set i o = σ := List.set_eq_of_length_le (by omega)
    rw [e1, e2]; exact s0
/-- a value with its own things is added -/
theorem St.addLast {F' : Hp} {v : V} (s : St E δ σ G H) (g : Gr G H G2 H2) (in2 : Same F' H2) (new : ∀ a, F' a ≠ none → H a = none ∧ G2 a = none) (hr : SlR E G2 F' r (some v)) : St E (δ ++ [r]) (σ ++ [some v]) G2 H2 := by
  have hl := s.len
  obtain ⟨F, q⟩ := s.rg
  have s2 := s.grow g
  refine ⟨s2.g, s2.h, s2.n, s2.i, by simp [hl], fun j => if j = δ.length then F' else F j, fun j => ?_, fun j a h => ?_, fun j k a ne h => ?_, fun j t o' h1 h2 => ?_⟩
  · split
    · exact in2
    · exact (q.in_ j).trans g.h
  · split at h
    · exact ⟨(new a h).2, s.h.free (new a h).1⟩
    · have z := q.out j a h
      exact ⟨g.n a (not_none (q.in_ j) h) z.1, z.2⟩
  · by_cases e1 : j = δ.length
    · rw [if_pos e1] at h
      have e2 : k ≠ δ.length := fun z => ne (e1.trans z.symm)
      rw [if_neg e2]
      cases z : F k a with
      | none => rfl
      | some w => exact absurd (new a h).1 (not_none (q.in_ k) (by rw [z]; simp))
    · rw [if_neg e1] at h
      split
      · cases z : F' a with
        | none => rfl
        | some w => exact absurd (new a (by rw [z]; simp)).1 (not_none (q.in_ j) h)
      · exact q.ap j k a ne h
  · by_cases e1 : j = δ.length
    · subst e1
      simp only [if_true]
      have e3 : t = r := by simpa using h1.symm
      have e4 : o' = some v := by rw [← hl] at h2; simpa using h2.symm
      subst e3 e4
      exact hr
    · simp only [e1, if_false]
      have lt : j < δ.length := by
        have := (List.getElem?_eq_some_iff.mp h1).1
        simp at this
        omega
      rw [List.getElem?_append_left lt] at h1
      rw [List.getElem?_append_left (by rw [hl]; exact lt)] at h2
      exact (q.sl j t o' h1 h2).mono g.g
theorem EvO.toR (h : EvO E te δ r) : EvR E te δ δ r := fun σ G H Q s k => h σ G H Q s fun v F G2 H2 g i n hr => k v G2 H2 g.g (s.addLast g i n hr)
theorem Ev.toO (h : Ev E te δ d) : EvO E te δ (.d d) := fun σ G H Q s k => h σ G H Q s fun v G2 H2 g hr => k v none0 G2 H2 g (fun _ _ z => nomatch z) (fun _ z => absurd rfl z) ⟨v, rfl, hr⟩
theorem EvO.ev (h : EvO E te δ (.d d)) : Ev E te δ d := fun σ G H Q s k => h σ G H Q s fun v F G2 H2 g i n hr => by
  obtain ⟨w, e, hr⟩ := hr
  cases e
  exact k v G2 H2 g hr
theorem EvF.toO {ds : List D} (h : EvF E te δ ds) : EvO E te δ (.ow ds) := fun σ G H Q s k => h σ G H Q s fun p vs G2 H2 g hp gp h2 hr => k (.ref p) (sing p (.lst vs)) G2 H2 g (sing_in h2) (fun a ha => by rw [sing_ne ha]; exact ⟨hp, gp⟩) ⟨p, vs, rfl, sing_self, hr⟩
theorem EvO.f {ds : List D} (h : EvO E te δ (.ow ds)) : EvF E te δ ds := fun σ G H Q s k => h σ G H Q s fun v F G2 H2 g i n hr => by
  obtain ⟨p, vs, e, h1, h2⟩ := hr
  cases e
  have z := n p (by rw [h1]; simp)
  exact k p vs G2 H2 g z.1 z.2 (i _ _ h1) h2
theorem EvR.m (h : EvR E te δ δ' (.d d)) : EvM E te δ δ' d := fun σ G H Q s k => h σ G H Q s fun v G2 H2 e s2 => by
  obtain ⟨F, _, _, w, e2, hr⟩ := s2.last
  cases e2
  exact k v G2 H2 e (s2.front s2.len1) hr
theorem EvM.toR (h : EvM E te δ δ' d) : EvR E te δ δ' (.d d) := fun σ G H Q s k => h σ G H Q s fun v G2 H2 e s2 hr => k v G2 H2 e (s2.addLast (Gr.refl s2.i) (F' := none0) (fun _ _ z => nomatch z) (fun _ z => absurd rfl z) ⟨v, rfl, hr⟩)
theorem xs_asgR {i : Nat} (h : EvR E te δ δ' r) (k : Φ (.nx (δ'.set i r))) : Xs E (tAsg te (gName i)) δ Φ := fun σ G H X s p => h σ G H _ s fun v G1 H1 e s1 => p _ k _ G1 H1 e (s1.setLast i)
theorem q_asgR {i : Nat} (h : EvR E te δ δ' r) (k : Xs E u (δ'.set i r) Φ) : Xs E (tSeq (tAsg te (gName i)) u) δ Φ := xs_seq (xs_asgR h k)
theorem xs_dropR (h : EvR E te δ δ' r) (k : Φ (.nx δ')) : Xs E (tDrop te) δ Φ := fun σ G H X s p => h σ G H _ s fun v G1 H1 e s1 => p _ k σ G1 H1 e (s1.front s1.len1)
theorem q_dropR (h : EvR E te δ δ' r) (k : Xs E u δ' Φ) : Xs E (tSeq (tDrop te) u) δ Φ := xs_seq (xs_dropR h k)
theorem xs_retR (h : EvR E te δ δ' r) (k : Φ (.rm δ' r)) : Xs E (tRet te) δ Φ := fun σ G H X s p => h σ G H _ s fun v G1 H1 e s1 => p _ k v σ G1 H1 e s1
theorem xs_retNR (k : Φ (.rm δ (.d .none))) : Xs E tRetN δ Φ := fun σ G H X s p => p _ k .non σ G H (Same.refl G) (s.addLast (Gr.refl s.i) (F' := none0) (fun _ _ z => nomatch z) (fun _ z => absurd rfl z) ⟨_, rfl, rfl⟩)
/-- return x, x a thing of its own -/
theorem evO_none : EvO E (tC .non) δ (.d .none) := Ev.toO ev_non

/-! ### data and own things handed over -/
/-- an own thing that a def may read: B of the data's heap, the whole heap, its value -/
structure Mono2 (B : Hp → Hp → V → Prop) : Prop where
  m : ∀ {G G2 H H2 : Hp} {v : V}, Same G G2 → Same H H2 → B G H v → B G2 H2 v
def HasB (E : Ent) (δ : List Sl) (i : Nat) (B : Hp → Hp → V → Prop) : Prop := ∀ σ G H, St E δ σ G H → ∃ v, σ[i]? = some (some v) ∧ B G H v
theorem hasB_own {i : Nat} {B : Hp → Hp → V → Prop} (m : Mono2 B) (h0 : δ[i]? = some (.ob B)) : HasB E δ i B := fun σ G H s => by
  obtain ⟨o, ho⟩ := s.here h0
  obtain ⟨F, q⟩ := s.rg
  obtain ⟨v, e, hs⟩ := q.sl i _ o h0 ho
  subst e
  exact ⟨v, ho, m.m (Same.refl G) (q.in_ i) (hs G (Same.refl G))⟩
/-- a borrowed thing's slot -/
def bor (B : Hp → Hp → V → Prop) (H0 : Hp) : Sl := .ob fun G _ v => B G H0 v
theorem hasB_bor {i : Nat} {B : Hp → Hp → V → Prop} (m : Mono2 B) (h0 : δ[i]? = some (bor B E.H)) : HasB E δ i B := fun σ G H s => by
  obtain ⟨o, ho⟩ := s.here h0
  obtain ⟨F, q⟩ := s.rg
  obtain ⟨v, e, hs⟩ := q.sl i _ o h0 ho
  subst e
  exact ⟨v, ho, m.m (Same.refl G) s.h (hs G (Same.refl G))⟩
inductive Ar where
  | a (s : Sl) | b (B : Hp → Hp → V → Prop)
def ArB (K : PySem.W.Frag) (G H : Hp) : Ar → V → Prop
  | .a s, v => ArgR K G H s v
  | .b B, v => B G H v
def ArsB (K : PySem.W.Frag) (G H : Hp) : List Ar → List V → Prop
  | [], vs => vs = []
  | a :: as, vs => ∃ v r, vs = v :: r ∧ ArB K G H a v ∧ ArsB K G H as r
def Ar.sl (H0 : Hp) : Ar → Sl
  | .a s => s
  | .b B => bor B H0
def Ar.mono : Ar → Prop
  | .a _ => True
  | .b B => Mono2 B
theorem ArsB.len {K : PySem.W.Frag} : ∀ {as : List Ar} {vs : List V}, ArsB K G H as vs → vs.length = as.length
  | [], _, h => by cases h; rfl
  | _ :: _, _, ⟨_, _, h1, _, h3⟩ => by subst h1; simp [ArsB.len h3]
theorem ArsB.get {K : PySem.W.Frag} : ∀ {as : List Ar} {vs : List V} {i : Nat} {a : Ar}, ArsB K G H as vs → as[i]? = some a → ∃ v, vs[i]? = some v ∧ ArB K G H a v
  | [], _, _, _, _, e => by simp at e
  | _ :: _, _, 0, _, ⟨v, _, h1, h2, _⟩, e => by subst h1; simp at e; subst e; exact ⟨v, rfl, h2⟩
  | _ :: _, _, i + 1, _, ⟨_, _, h1, _, h3⟩, e => by
    subst h1
    obtain ⟨v, q1, q2⟩ := ArsB.get (i := i) h3 (by simpa using e)
    exact ⟨v, by simpa using q1, q2⟩
/-- a def that reads what it is handed -/
def spB (K : PySem.W.Frag) (R : List Ar → Sl → Prop) : Sp := fun vs H Q _ => ∃ G as r, Same G H ∧ ArsB K G H as vs ∧ (∀ a ∈ as, a.mono) ∧ R as r ∧
  ∀ v F G2 H2, Gr G H G2 H2 → Same F H2 → (∀ a, F a ≠ none → H a = none ∧ G2 a = none) → SlR ⟨K, G, H⟩ G2 F r (some v) → Q v H2
def EaB (E : Ent) (ta : TA) (δ : List Sl) (as : List Ar) : Prop := ∀ σ G H (Q : List V → Hp → Prop), St E δ σ G H → (∀ us G2 H2, Gr G H G2 H2 → ArsB E.K G2 H2 as us → Q us H2) → ta σ H Q
theorem eb_nil : EaB E tNil δ [] := fun σ G H Q s k => k [] G H (Gr.refl s.i) rfl
theorem eb_d {tr : TA} {as : List Ar} (h : Ev E ta δ d) (hr : EaB E tr δ as) : EaB E (tCons ta tr) δ (.a (.d d) :: as) := fun σ G H Q s k =>
  h σ G H _ s fun v G1 H1 g1 r1 => hr σ G1 H1 _ (s.grow g1) fun us G2 H2 g2 r2 => k (v :: us) G2 H2 (g1.trans g2) ⟨v, us, rfl, Rp.mono g2.g _ _ r1, r2⟩
theorem eb_b {tr : TA} {as : List Ar} {i : Nat} {B : Hp → Hp → V → Prop} (m : Mono2 B) (h : HasB E δ i B) (hr : EaB E tr δ as) : EaB E (tCons (tVar i) tr) δ (.b B :: as) := fun σ G H Q s k => by
  obtain ⟨v, ho, hb⟩ := h σ G H s
  exact ⟨v, ho, hr σ G H _ s fun us G2 H2 g2 r2 => k (v :: us) G2 H2 g2 ⟨v, us, rfl, m.m g2.g g2.h hb, r2⟩⟩
/-- what is known of a value that owns nothing of the entry -/
def Sl.plain : Sl → Bool
  | .s _ => false
  | _ => true
theorem SlR.ent {E E2 : Ent} {F : Hp} : ∀ {r : Sl} {o : Option V}, r.plain = true → SlR E G F r o → SlR E2 G F r o
  | .no, _, _, h => h
  | .d _, _, _, h => h
  | .v _, _, _, h => h
  | .s _, _, b, _ => nomatch b
  | .ow _, _, _, h => h
  | .od _, _, _, h => h
  | .ob _, _, _, h => h
theorem evO_callB {R : List Ar → Sl → Prop} {t : TA} {as : List Ar} {XE : XK} (h : EaB E t δ as) (m : ∀ a ∈ as, a.mono) (hR : R as r) (hp : r.plain = true) : EvO E (tCall (spB E.K R) [] XE t) δ r := fun σ G H Q s k =>
  h σ G H _ s fun us G1 H1 g1 r1 => by
    rw [List.append_nil]
    exact ⟨G1, as, r, g1.i, r1, m, hR, fun v F G2 H2 g2 i n q => k v F G2 H2 (g1.trans g2) i (fun a ha => ⟨g1.h.free (n a ha).1, (n a ha).2⟩) (q.ent hp)⟩
/-- o.m(..), o an own instance -/
theorem evO_methB {C : Addr} {m : Str} {R : List Ar → Sl → Prop} {t : TA} {as : List Ar} {XE : XK} {i : Nat} {B : Hp → Hp → V → Prop} (mb : Mono2 B) (hB : HasB E δ i B) (ins : ∀ G H v, B G H v → ∃ a dx fs, v = .ref a ∧ H a = some (.ins C dx fs) ∧ fs.lookup m = none)
    (h : EaB E t δ as) (mm : ∀ a ∈ as, a.mono) (hR : R (.b B :: as) r) (hp : r.plain = true) : EvO E (tMeth C m (spB E.K R) [] XE (tVar i) t) δ r := fun σ G H Q s k => by
  obtain ⟨v, ho, hb⟩ := hB σ G H s
  obtain ⟨a, dx, fs, e, h1, h2⟩ := ins G H v hb
  subst e
  refine ⟨.ref a, ho, a, dx, fs, rfl, h1, h2, h σ G H _ s fun us G1 H1 g1 r1 => ?_⟩
  rw [List.append_nil]
  exact ⟨G1, .b B :: as, r, g1.i, ⟨_, us, rfl, mb.m g1.g g1.h hb, r1⟩, fun x hx => (List.mem_cons.mp hx).elim (fun z => by rw [z]; exact mb) (mm x), hR, fun v F G2 H2 g2 i n q => k v F G2 H2 (g1.trans g2) i (fun a ha => ⟨g1.h.free (n a ha).1, (n a ha).2⟩) (q.ent hp)⟩
theorem stB_start {K : PySem.W.Frag} {as : List Ar} {vs : List V} {N : List Str} (i : Same G H) (r : ArsB K G H as vs) (m : ∀ a ∈ as, a.mono) (hn : vs.length ≤ N.length) : St ⟨K, G, H⟩ (argSl (as.map (Ar.sl H)) (N.length - as.length)) (start N vs) G H := by
  have hl := r.len
  have ss : start N vs = vs.map some ++ List.replicate (N.length - vs.length) none := rfl
  refine ⟨Same.refl G, Same.refl H, fun _ _ h => h, i, ?_, fun _ => none0, ⟨fun _ _ _ z => (nomatch z), fun _ _ z => absurd rfl z, fun _ _ _ _ z => absurd rfl z, fun j t o h1 h2 => ?_⟩⟩
  · rw [ss]; simp [argSl, hl]
  · rw [ss] at h2
    unfold argSl at h1
    by_cases hj : j < as.length
    · rw [List.getElem?_append_left (by simp [hj])] at h1
      rw [List.getElem?_append_left (by simp [hl, hj])] at h2
      rw [List.getElem?_map, List.getElem?_eq_getElem hj] at h1
      obtain ⟨v, e1, e2⟩ := r.get (List.getElem?_eq_getElem hj)
      rw [List.getElem?_map, e1] at h2
      cases h2
      have hm := m as[j] (List.getElem_mem hj)
      generalize as[j] = a at h1 e2 hm
      cases a with
      | b B =>
        cases h1
        exact ⟨v, rfl, fun G' e => hm.m e (Same.refl H) e2⟩
      | a s =>
        cases h1
        cases s with
        | no => exact e2.elim
        | d x => exact ⟨v, rfl, e2⟩
        | v x => exact congrArg some e2
        | s ns => obtain ⟨a, q1, q2⟩ := e2; exact ⟨a, congrArg some q1, q2⟩
        | ow xs => exact e2.elim
        | od xs => exact e2.elim
        | ob P => exact e2.elim
    · rw [List.getElem?_append_right (by simp; omega)] at h1
      have : t = .no := by
        obtain ⟨hlt, e⟩ := List.getElem?_eq_some_iff.mp h1
        simp at e
        exact e.symm
      subst this
      trivial
/-- what a reading def hands back -/
def RetB (r : Sl) : Out → Prop
  | .rm _ r' => r' = r
  | .rt d => r = .d d
  | .rl ds => r = .ow ds
  | .nx _ => r = .d .none
  | _ => False
theorem spB_run {K : PySem.W.Frag} {R : List Ar → Sl → Prop} {t : TS} {N : List Str} {vs : List V} {H : Hp} {Q : VK} {XE : XK} (hsp : spB K R vs H Q XE) (hn : vs.length ≤ N.length)
    (h : ∀ as r, R as r → (∀ a ∈ as, a.mono) → ∀ E : Ent, E.K = K → Xs E t (argSl (as.map (Ar.sl E.H)) (N.length - as.length)) (RetB r)) : t { nx := fun _ H' => Q .non H', rt := Q } (start N vs) H := by
  obtain ⟨G, as, r, i, ra, m, hR, k⟩ := hsp
  refine h as r hR m ⟨K, G, H⟩ rfl (start N vs) G H _ (stB_start i ra m hn) fun o e => ?_
  cases o with
  | rm δ r' =>
    have e : r' = r := e
    subst e
    intro v σ G' H' _ s
    obtain ⟨F, f1, f2, f3⟩ := s.last
    exact k v F G' H' s.gr f1 (fun a ha => ⟨(f2 a ha).2, (f2 a ha).1⟩) f3
  | rt d =>
    have e : r = .d d := e
    subst e
    exact fun v G' H' g rr => k v none0 G' H' g (fun _ _ z => nomatch z) (fun _ z => absurd rfl z) ⟨v, rfl, rr⟩
  | rl ds =>
    have e : r = .ow ds := e
    subst e
    exact fun p vs G' H' g hp gp h2 rr => k (.ref p) (sing p (.lst vs)) G' H' g (sing_in h2) (fun a ha => by rw [sing_ne ha]; exact ⟨hp, gp⟩) ⟨p, vs, rfl, sing_self, rr⟩
  | nx δ =>
    have e : r = .d .none := e
    subst e
    exact fun σ G' H' _ s => k .non none0 G' H' s.gr (fun _ _ z => nomatch z) (fun _ z => absurd rfl z) ⟨_, rfl, rfl⟩
  | rk _ => exact e.elim
  | rf _ => exact e.elim
  | bk _ => exact e.elim
  | ct _ => exact e.elim
theorem spB_len {K : PySem.W.Frag} {R : List Ar → Sl → Prop} {n : Nat} {vs : List V} {H : Hp} {Q : VK} {XE : XK} (hsp : spB K R vs H Q XE) (h : ∀ as r, R as r → as.length = n) : vs.length = n := by
  obtain ⟨G, as, r, i, ra, m, hR, k⟩ := hsp
  rw [ra.len, h as r hR]

/-! ### own things handed over, to be changed -/
/-- a def that changes own things; as: what is handed over, as': what has become of it, r: what comes back -/
def spM (K : PySem.W.Frag) (R : List Sl → List Sl → Sl → Prop) : Sp := fun vs H Q _ => ∃ (En : Ent) (G : Hp) (as as' : List Sl) (r : Sl), En.K = K ∧ St En as (vs.map some) G H ∧ R as as' r ∧
  ∀ v G2 H2, Same G G2 → St En (as' ++ [r]) (vs.map some ++ [some v]) G2 H2 → Q v H2
theorem spM_len {K : PySem.W.Frag} {R : List Sl → List Sl → Sl → Prop} {n : Nat} {vs : List V} {H : Hp} {Q : VK} {XE : XK} (hsp : spM K R vs H Q XE) (h : ∀ as as' r, R as as' r → as.length = n) : vs.length = n := by
  obtain ⟨En, G, as, as', r, _, s, hR, k⟩ := hsp
  have := s.len
  rw [List.length_map] at this
  rw [this, h as as' r hR]
/-- a slot that says where its thing is -/
def PinS (p : Addr) (P : Hp → Hp → V → Prop) : Prop := ∀ G F v, P G F v → v = .ref p
/-- slots that may be given back -/
def Back (as as' : List Sl) : Prop := as'.length = as.length ∧ ∀ (k : Nat) (t : Sl), as'[k]? = some t → t = .no ∨ ∃ P P' p, as[k]? = some (.ob P) ∧ t = .ob P' ∧ PinS p P ∧ PinS p P'
theorem st_more {En : Ent} {as : List Sl} {τ : L2.St} (s : St En as τ G H) (n : Nat) : St En (argSl as n) (τ ++ List.replicate n none) G H := by
  obtain ⟨F, q⟩ := s.rg
  have hl := s.len
  refine ⟨s.g, s.h, s.n, s.i, by simp [argSl, hl], F, q.in_, q.out, q.ap, fun j t o h1 h2 => ?_⟩
  unfold argSl at h1
  by_cases hj : j < as.length
  · rw [List.getElem?_append_left hj] at h1
    rw [List.getElem?_append_left (by rw [hl]; exact hj)] at h2
    exact q.sl j t o h1 h2
  · rw [List.getElem?_append_right (by omega)] at h1
    have : t = .no := by
      obtain ⟨hlt, e⟩ := List.getElem?_eq_some_iff.mp h1
      simp at e
      exact e.symm
    subst this
    trivial
theorem spM_run {K : PySem.W.Frag} {R : List Sl → List Sl → Sl → Prop} {t : TS} {N : List Str} {vs : List V} {H : Hp} {Q : VK} {XE : XK} (hsp : spM K R vs H Q XE) (hn : vs.length ≤ N.length) (hb : ∀ as as' r, R as as' r → Back as as')
    (h : ∀ as as' r, R as as' r → ∀ E : Ent, E.K = K → Xs E t (argSl as (N.length - as.length)) fun o => (∃ rest, o = .rm (as' ++ rest) r) ∨ (r = .d .none ∧ ∃ rest, o = .nx (as' ++ rest))) : t { nx := fun _ H' => Q .non H', rt := Q } (start N vs) H := by
  obtain ⟨En, G, as, as', r, hK, s, hR, k⟩ := hsp
  have hl : vs.length = as.length := by have := s.len; rwa [List.length_map] at this
  obtain ⟨b1, b2⟩ := hb as as' r hR
  have ss : start N vs = vs.map some ++ List.replicate (N.length - as.length) none := by rw [← hl]; rfl
  have fin : ∀ (rest : List Sl) (v : V) (σ : L2.St) (G' H' : Hp), Same G G' → St En (as' ++ rest ++ [r]) (σ ++ [some v]) G' H' → Q v H' := fun rest v σ G' H' e s2 => by
    refine k v G' H' e ?_
    obtain ⟨F, q⟩ := s2.rg
    obtain ⟨F0, q0⟩ := s.rg
    have hl2 := s2.len1
    refine ⟨s2.g, s2.h, s2.n, s2.i, by simp [b1, hl], fun j => if j < as'.length then F j else if j = as'.length then F (as' ++ rest).length else none0, fun j => ?_, fun j a h => ?_, fun i j a ne h => ?_, fun j t o h1 h2 => ?_⟩
    · split
      · exact q.in_ j
      · split
        · exact q.in_ _
        · exact fun _ _ z => nomatch z
    · split at h
      · exact q.out j a h
      · split at h
        · exact q.out _ a h
        · exact absurd rfl h
    · have big : (as' ++ rest).length = as'.length + rest.length := by simp
      by_cases e1 : i < as'.length
      · simp only [e1, if_true] at h
        by_cases e2 : j < as'.length
        · simp only [e2, if_true]; exact q.ap i j a ne h
        · simp only [e2, if_false]
          split
          · exact q.ap i _ a (by omega) h
          · rfl
      · simp only [e1, if_false] at h
        split at h
        · rename_i e3
          by_cases e2 : j < as'.length
          · simp only [e2, if_true]; exact q.ap _ j a (by omega) h
          · simp only [e2, if_false]
            rw [if_neg (fun z => ne (e3.trans z.symm))]
            rfl
        · exact absurd rfl h
    · by_cases e1 : j < as'.length
      · simp only [e1, if_true]
        rw [List.getElem?_append_left e1] at h1
        rw [List.getElem?_append_left (by simp; omega)] at h2
        rcases b2 j t h1 with z | ⟨P, P', p, z1, z2, z3, z4⟩
        · subst z; trivial
        · subst z2
          have hj : j < σ.length := by rw [hl2]; simp; omega
          obtain ⟨w, ew, hw⟩ := q.sl j (.ob P') σ[j] (by rw [List.append_assoc, List.getElem?_append_left e1]; exact h1) (by rw [List.getElem?_append_left hj, List.getElem?_eq_getElem hj])
          obtain ⟨w0, ew0, hw0⟩ := q0.sl j (.ob P) o z1 h2
          have e2 := z4 _ _ _ (hw G' (Same.refl G'))
          have e3 := z3 _ _ _ (hw0 G (Same.refl G))
          subst e2 e3
          exact ⟨_, ew0, hw⟩
      · have e4 : j = as'.length := by
          have := (List.getElem?_eq_some_iff.mp h1).1
          simp at this
          omega
        subst e4
        simp only [Nat.lt_irrefl, if_false, if_true]
        have e5 : t = r := by simpa using h1.symm
        have e6 : o = some v := by
          have : (vs.map some).length = as'.length := by rw [List.length_map, hl, b1]
          rw [← this] at h2
          simpa using h2.symm
        subst e5 e6
        exact q.sl _ _ _ (by simp) (by rw [← hl2]; simp)
  rw [ss]
  refine h as as' r hR En hK _ G H _ (st_more s _) fun o e => ?_
  rcases e with ⟨rest, rfl⟩ | ⟨e1, rest, rfl⟩
  · exact fun v σ G' H' e s2 => fin rest v σ G' H' e s2
  · subst e1
    exact fun σ G' H' e s2 => fin rest .non σ G' H' e (s2.addLast (Gr.refl s2.i) (F' := none0) (fun _ _ z => nomatch z) (fun _ z => absurd rfl z) ⟨_, rfl, rfl⟩)
/-- what a caller keeps while a def changes the thing of slot i -/
theorem St.frame {i : Nat} {P : Hp → Hp → V → Prop} {v : V} {as : List D} {us : List V} (s : St E δ σ G H) (h0 : δ[i]? = some (.ob P)) (ho : σ[i]? = some (some v)) (r : RpA G as us) :
    ∃ En : Ent, (En.K = E.K ∧ En.G = G) ∧ St En (.ob P :: as.map .d) (some v :: us.map some) G H ∧ ∀ P' rr v2 G2 H2, rr.plain = true → Same G G2 → St En (.ob P' :: (as.map fun _ => Sl.no) ++ [rr]) (some v :: us.map some ++ [some v2]) G2 H2 → St E (δ.set i (.ob P') ++ [rr]) (σ ++ [some v2]) G2 H2 := by
  obtain ⟨F, q⟩ := s.rg
  have lt : i < δ.length := (List.getElem?_eq_some_iff.mp h0).1
  have keep : ∀ a o, H a = some o → F i a = none → out (F i) H a = some o := fun a o h1 h2 => by rw [out_none h2]; exact h1
  have eE : ∀ a o, E.H a = some o → out (F i) H a = some o := fun a o h => keep a o (s.h a o h) (by
    cases z : F i a with
    | none => rfl
    | some w => rw [(q.out i a (by rw [z]; simp)).2] at h; cases h)
  refine ⟨⟨E.K, G, out (F i) H⟩, ⟨rfl, rfl⟩, ⟨Same.refl G, out_in, fun _ _ h => h, s.i, by simp [r.len], fun j => if j = 0 then F i else none0, fun j => ?_, fun j a h => ?_, fun j k a ne h => ?_, fun j t o h1 h2 => ?_⟩, fun P' rr v2 G2 H2 hpl e s2 => ?_⟩
  · split
    · exact q.in_ i
    · exact fun _ _ z => nomatch z
  · split at h
    · refine ⟨(q.out i a h).1, ?_⟩
      show out (F i) H a = none
      unfold out
      cases z : F i a with
      | none => exact absurd z h
      | some w => rfl
    · exact absurd rfl h
  · split at h
    · rename_i e1
      rw [if_neg (fun z => ne (e1.trans z.symm))]
      rfl
    · exact absurd rfl h
  · cases j with
    | zero =>
      cases h1; cases h2
      obtain ⟨w, e1, hw⟩ := q.sl i _ _ h0 ho
      exact ⟨w, e1, hw⟩
    | succ j =>
      rw [List.getElem?_cons_succ, List.getElem?_map, Option.map_eq_some_iff] at h1
      rw [List.getElem?_cons_succ, List.getElem?_map, Option.map_eq_some_iff] at h2
      obtain ⟨x, hx, rfl⟩ := h1
      obtain ⟨w, hw, rfl⟩ := h2
      obtain ⟨w2, e1, e2⟩ := r.get hx
      rw [hw] at e1; cases e1
      exact ⟨w, rfl, e2⟩
  · obtain ⟨F2, q2⟩ := s2.rg
    have n0 : (Sl.ob P' :: as.map fun _ => Sl.no).length = as.length + 1 := by simp
    have lu : (some v :: us.map some).length = as.length + 1 := by simp [r.len]
    have k1 : ∀ j a, j ≠ i → F j a ≠ none → out (F i) H a ≠ none := fun j a ne h => by
      rw [out_none (q.ap j i a ne h)]
      exact not_none (q.in_ j) h
    have hsl := s.len
    refine ⟨s.g.trans e, fun a o h => s2.h a o (eE a o h), fun a ha ga => s2.n a (not_none (fun a o h => eE a o h) ha) (s.n a ha ga), s2.i, by simp [hsl], fun j => if j = i then F2 0 else if j = δ.length then F2 (as.length + 1) else F j, fun j => ?_, fun j a h => ?_, fun j k a ne h => ?_, fun j t o h1 h2 => ?_⟩
    · split
      · exact q2.in_ 0
      · split
        · exact q2.in_ _
        · rename_i e1 _
          intro a o h
          exact s2.h a o (keep a o (q.in_ j a o h) (q.ap j i a e1 (by rw [h]; simp)))
    · have fromNew : ∀ m, F2 m a ≠ none → G2 a = none ∧ E.H a = none := fun m h => by
        have z := q2.out m a h
        refine ⟨z.1, ?_⟩
        cases w : E.H a with
        | none => rfl
        | some o =>
          have z2 : out (F i) H a = none := z.2
          rw [eE a o w] at z2; cases z2
      split at h
      · exact fromNew _ h
      · split at h
        · exact fromNew _ h
        · rename_i e1 _
          have z := q.out j a h
          exact ⟨s2.n a (k1 j a e1 h) z.1, z.2⟩
    · have apart : ∀ j m, j ≠ i → F j a ≠ none → F2 m a = none := fun j m ne h => by
        cases w : F2 m a with
        | none => rfl
        | some o => exact absurd (q2.out m a (by rw [w]; simp)).2 (k1 j a ne h)
      have apart2 : ∀ j m, j ≠ i → F2 m a ≠ none → F j a = none := fun j m ne h => by
        cases w : F j a with
        | none => rfl
        | some o => exact absurd (apart j m ne (by rw [w]; simp)) h
      by_cases e1 : j = i
      · simp only [e1, if_true] at h
        have e2 : k ≠ i := fun z => ne (e1.trans z.symm)
        simp only [e2, if_false]
        split
        · exact q2.ap 0 _ a (by omega) h
        · exact apart2 k 0 e2 h
      · simp only [e1, if_false] at h
        by_cases e3 : j = δ.length
        · simp only [e3, if_true] at h
          by_cases e2 : k = i
          · simp only [e2, if_true]; exact q2.ap _ 0 a (by omega) h
          · simp only [e2, if_false]
            rw [if_neg (fun z => ne (e3.trans z.symm))]
            exact apart2 k _ e2 h
        · simp only [e3, if_false] at h
          by_cases e2 : k = i
          · simp only [e2, if_true]; exact apart j 0 e1 h
          · simp only [e2, if_false]
            split
            · exact apart j _ e1 h
            · exact q.ap j k a ne h
    · by_cases e1 : j = i
      · subst e1
        simp only [if_true]
        have e2 : t = .ob P' := by
          rw [List.getElem?_append_left (by simpa using lt)] at h1
          simpa [lt] using h1.symm
        have e3 : o = some v := by
          rw [List.getElem?_append_left (by rw [hsl]; exact lt), ho] at h2
          exact (Option.some.inj h2).symm
        subst e2 e3
        obtain ⟨w, e4, hw⟩ := q2.sl 0 (.ob P') (some v) rfl rfl
        exact ⟨w, e4, hw⟩
      · simp only [e1, if_false]
        by_cases e3 : j = δ.length
        · subst e3
          simp only [if_true]
          have e2 : t = rr := by
            have : (δ.set i (.ob P')).length = δ.length := by simp
            rw [← this] at h1
            simpa using h1.symm
          have e4 : o = some v2 := by rw [← hsl] at h2; simpa using h2.symm
          subst e2 e4
          exact SlR.ent hpl (q2.sl (as.length + 1) t (some v2) (by rw [← n0]; simp) (by rw [← lu]; simp))
        · simp only [e3, if_false]
          have lj : j < δ.length := by
            have := (List.getElem?_eq_some_iff.mp h1).1
            simp at this
            omega
          rw [List.getElem?_append_left (by simpa using lj), List.getElem?_set_ne (Ne.symm e1)] at h1
          rw [List.getElem?_append_left (by rw [hsl]; exact lj)] at h2
          exact (q.sl j t o h1 h2).mono e
/-- o.m(..) that changes o -/
theorem evR_methM {C : Addr} {m : Str} {R : List Sl → List Sl → Sl → Prop} {t : TA} {ds : List D} {XE : XK} {i : Nat} {P P' : Hp → Hp → V → Prop} (h0 : δ[i]? = some (.ob P)) (ins : ∀ G F v, P G F v → ∃ a dx fs, v = .ref a ∧ F a = some (.ins C dx fs) ∧ fs.lookup m = none)
    (h : Ed E t δ ds) (hR : R (.ob P :: ds.map .d) (.ob P' :: ds.map fun _ => .no) r) (hp : r.plain = true) : EvR E (tMeth C m (spM E.K R) [] XE (tVar i) t) δ (δ.set i (.ob P')) r := fun σ G H Q s k => by
  obtain ⟨o, ho⟩ := s.here h0
  obtain ⟨F, q⟩ := s.rg
  obtain ⟨v, e, hs⟩ := q.sl i _ o h0 ho
  subst e
  obtain ⟨a, dx, fs, e, h1, h2⟩ := ins _ _ _ (hs G (Same.refl G))
  subst e
  refine ⟨.ref a, ho, a, dx, fs, rfl, q.in_ i _ _ h1, h2, h σ G H _ s fun us G1 H1 g1 r1 => ?_⟩
  rw [List.append_nil]
  obtain ⟨En, hK, s1, back⟩ := (s.grow g1).frame h0 ho r1
  exact ⟨En, G1, _, _, r, hK.1, s1, hR, fun v2 G2 H2 e2 s2 => k v2 G2 H2 (g1.g.trans e2) (back P' r v2 G2 H2 hp e2 s2)⟩
theorem evR_callM {R : List Sl → List Sl → Sl → Prop} {t : TA} {ds : List D} {XE : XK} {i : Nat} {P P' : Hp → Hp → V → Prop} (h0 : δ[i]? = some (.ob P)) (h : Ed E t δ ds) (hR : R (.ob P :: ds.map .d) (.ob P' :: ds.map fun _ => .no) r) (hp : r.plain = true) :
    EvR E (tCall (spM E.K R) [] XE (tCons (tVar i) t)) δ (δ.set i (.ob P')) r := fun σ G H Q s k => by
  obtain ⟨o, ho⟩ := s.here h0
  obtain ⟨F, q⟩ := s.rg
  obtain ⟨v, e, hs⟩ := q.sl i _ o h0 ho
  subst e
  refine ⟨v, ho, h σ G H _ s fun us G1 H1 g1 r1 => ?_⟩
  show spM E.K R ((v :: us) ++ []) H1 Q XE
  rw [List.append_nil]
  obtain ⟨En, hK, s1, back⟩ := (s.grow g1).frame h0 ho r1
  exact ⟨En, G1, _, _, r, hK.1, s1, hR, fun v2 G2 H2 e2 s2 => k v2 G2 H2 (g1.g.trans e2) (back P' r v2 G2 H2 hp e2 s2)⟩
end
end PL

/-! PTab: the table: an instance with three own lists, one of them of own lists; what is read of it, how it is changed. -/
namespace PL
open PySem PySem.Spec PyProof.Rows L2
def tfs (l r e : Addr) : List (Str × V) := [("laid_stones", .ref l), ("rows", .ref r), ("deeds", .ref e)]
theorem lk_one {k : Str} {v : V} {fs : List (Str × V)} : (((k, v) :: fs).lookup k) = some v := by
  rw [List.lookup_cons]
  simp
theorem lk_ne {k m : Str} {v : V} {fs : List (Str × V)} (h : ¬ m = k) : (((k, v) :: fs).lookup m) = fs.lookup m := by
  rw [List.lookup_cons]
  have : (m == k) = false := by simpa using h
  rw [this]
theorem tfs_l (l r e : Addr) : (tfs l r e).lookup ("laid_stones" : Str) = some (.ref l) := lk_one
theorem tfs_r (l r e : Addr) : (tfs l r e).lookup ("rows" : Str) = some (.ref r) := (lk_ne (by decide +kernel)).trans lk_one
theorem tfs_e (l r e : Addr) : (tfs l r e).lookup ("deeds" : Str) = some (.ref e) := (lk_ne (by decide +kernel)).trans ((lk_ne (by decide +kernel)).trans lk_one)
theorem tfs_no (l r e : Addr) {m : Str} (h1 : ¬ m = "laid_stones") (h2 : ¬ m = "rows") (h3 : ¬ m = "deeds") : (tfs l r e).lookup m = none := (lk_ne h1).trans ((lk_ne h2).trans ((lk_ne h3).trans rfl))
/-- what the top has made of the class -/
structure TabT (K : PySem.W.Frag) (mg : Str → Option Value) (cT : Addr) : Prop where
  cl : Cls K cT
  nl : NoAttr K cT "laid_stones"
  nr : NoAttr K cT "rows"
  ne : NoAttr K cT "deeds"
  mg : mg "Table" = some (.ref cT)
structure TabF (C p : Addr) (ss : List D) (rows : List (List D)) (ds : List D) (G F : Hp) (l r e : Addr) (vs us : List V) (ts : List Addr) : Prop where
  ob : ∃ dx, F p = some (.ins C dx (tfs l r e))
  hl : F l = some (.lst vs)
  rl : RpA G ss vs
  hr : F r = some (.lst (ts.map V.ref))
  rr : NestR G F ts rows
  he : F e = some (.lst us)
  re : RpA G ds us
  nd : (p :: l :: r :: e :: ts).Nodup
/-- a table at p -/
def tabB (C p : Addr) (ss : List D) (rows : List (List D)) (ds : List D) : Hp → Hp → V → Prop := fun G F v => v = .ref p ∧ ∃ l r e vs us ts, TabF C p ss rows ds G F l r e vs us ts
theorem tab_mono {C p : Addr} {ss : List D} {rows : List (List D)} {ds : List D} : Mono2 (tabB C p ss rows ds) := ⟨fun {G G2 H H2 v} e f ⟨h, l, r, e', vs, us, ts, t⟩ => ⟨h, l, r, e', vs, us, ts, t.ob.imp fun dx h => f _ _ h, f _ _ t.hl, RpA.mono e _ _ t.rl, f _ _ t.hr, t.rr.grow e f, f _ _ t.he, RpA.mono e _ _ t.re, t.nd⟩⟩
theorem tab_pin {C p : Addr} {ss : List D} {rows : List (List D)} {ds : List D} : PinS p (tabB C p ss rows ds) := fun _ _ _ h => h.1
theorem tab_ins {C p : Addr} {ss : List D} {rows : List (List D)} {ds : List D} {m : Str} (h1 : ¬ m = "laid_stones") (h2 : ¬ m = "rows") (h3 : ¬ m = "deeds") : ∀ G F v, tabB C p ss rows ds G F v → ∃ a dx fs, v = .ref a ∧ F a = some (.ins C dx fs) ∧ fs.lookup m = none := fun G F v ⟨h, l, r, e, vs, us, ts, t⟩ => by
  obtain ⟨dx, h⟩ := t.ob
  exact ⟨p, dx, _, by assumption, h, tfs_no l r e h1 h2 h3⟩
section
variable {E : Ent} {δ δ' : List Sl} {σ : L2.St} {G H G2 H2 : Hp} {te ta tb tc : TE} {d : D} {Φ : Out → Prop} {C p : Addr} {ss ds xs row : List D} {rows : List (List D)} {i j : Nat} {z : Int} {mg : Str → Option Value}
/-- an own thing is changed, and what it owns -/
theorem St.changeF {P' : Hp → Hp → V → Prop} {v : V} {F : Nat → Hp} {F' H3 : Hp} (s : St E δ σ G H) (ho : σ[i]? = some (some v)) (q : Reg E δ σ G H F) (g : Gr G H G2 H2) (e2 : ∀ b o, H2 b = some o → F i b = none → H3 b = some o) (k2 : Same F' H3)
    (k3 : ∀ b, F' b ≠ none → F i b ≠ none ∨ (H b = none ∧ G2 b = none)) (r : ∀ G', Same G2 G' → P' G' F' v) : St E (δ.set i (.ob P')) σ G2 H3 := by
  have off : ∀ b, F i b ≠ none → G2 b = none ∧ E.H b = none := fun b hb => by
    have y := q.out i b hb
    exact ⟨g.n b (not_none (q.in_ i) hb) y.1, y.2⟩
  have i3 : Same G2 H3 := fun a o h => e2 a o (g.i a o h) (by
    cases w : F i a with
    | none => rfl
    | some u => rw [(off a (by rw [w]; simp)).1] at h; cases h)
  have := q.step s.i i (.ob P') (some v) F' g.g i3 g.n (fun b o hb hf => e2 b o (g.h b o hb) hf) k2 (fun b hb => (k3 b hb).elim (off b) fun z => ⟨z.2, s.h.free z.1⟩) (fun b hb => (k3 b hb).imp id And.left) ⟨v, rfl, r⟩
  rw [set_get ho] at this
  exact ⟨s.g.trans g.g, fun a o h => e2 a o (g.h _ _ (s.h a o h)) (by
    cases w : F i a with
    | none => rfl
    | some u => rw [(q.out i a (by rw [w]; simp)).2] at h; cases h), fun b hb gb => g.n b (not_none s.h hb) (s.n b hb gb), i3, by simp [s.len], _, this⟩
/-- .. one object of it -/
theorem St.change1 {P' : Hp → Hp → V → Prop} {v : V} {F : Nat → Hp} {a : Addr} {u' : HO} (s : St E δ σ G H) (ho : σ[i]? = some (some v)) (q : Reg E δ σ G H F) (g : Gr G H G2 H2) (fa : F i a ≠ none) (r : ∀ G', Same G2 G' → P' G' (upd (F i) a u') v) : St E (δ.set i (.ob P')) σ G2 (upd H2 a u') :=
  s.changeF ho q g (fun b o hb hf => by rw [upd_ne (fun e => fa (by rw [← e]; exact hf))]; exact hb) (fun b o hb => by
    by_cases e : b = a
    · subst e; rw [upd_same] at hb ⊢; exact hb
    · rw [upd_ne e] at hb ⊢; exact g.h _ _ (q.in_ i b o hb)) (fun b hb => by
    by_cases e : b = a
    · subst e; exact .inl fa
    · rw [upd_ne e] at hb; exact .inl hb) r
theorem St.atTab (s : St E δ σ G H) (h0 : δ[i]? = some (.ob (tabB C p ss rows ds))) : ∃ F l r e vs us ts, σ[i]? = some (some (.ref p)) ∧ Reg E δ σ G H F ∧ TabF C p ss rows ds G (F i) l r e vs us ts := by
  obtain ⟨o, ho⟩ := s.here h0
  obtain ⟨F, q⟩ := s.rg
  obtain ⟨v, e, hs⟩ := q.sl i _ o h0 ho
  subst e
  obtain ⟨e, l, r, e', vs, us, ts, t⟩ := hs G (Same.refl G)
  subst e
  exact ⟨F, l, r, e', vs, us, ts, ho, q, t⟩

/-! ### what is read -/
theorem evB_L (T : TabT E.K mg C) (h : HasB E δ i (tabB C p ss rows ds)) : EvB E (tFld E.K (tVar i) "laid_stones") δ ss := fun σ G H Q s k => by
  obtain ⟨v, ho, e, l, r, e', vs, us, ts, t⟩ := h σ G H s
  subst e
  obtain ⟨dx, ob⟩ := t.ob
  exact ⟨.ref p, ho, p, C, dx, _, .ref l, rfl, ob, T.cl, T.nl, tfs_l l r e', k l vs G H (Gr.refl s.i) t.hl t.rl⟩
theorem evB_D (T : TabT E.K mg C) (h : HasB E δ i (tabB C p ss rows ds)) : EvB E (tFld E.K (tVar i) "deeds") δ ds := fun σ G H Q s k => by
  obtain ⟨v, ho, e, l, r, e', vs, us, ts, t⟩ := h σ G H s
  subst e
  obtain ⟨dx, ob⟩ := t.ob
  exact ⟨.ref p, ho, p, C, dx, _, .ref e', rfl, ob, T.cl, T.ne, tfs_e l r e', k e' us G H (Gr.refl s.i) t.he t.re⟩
/-- a list of lists that stand in the heap -/
def EvN2 (E : Ent) (te : TE) (δ : List Sl) (rows : List (List D)) : Prop := ∀ σ G H (Q : VK), St E δ σ G H → (∀ a ts G2 H2, Gr G H G2 H2 → H2 a = some (.lst (ts.map V.ref)) → NestR G2 H2 ts rows → Q (.ref a) H2) → te σ H Q
theorem evN_R (T : TabT E.K mg C) (h : HasB E δ i (tabB C p ss rows ds)) : EvN2 E (tFld E.K (tVar i) "rows") δ rows := fun σ G H Q s k => by
  obtain ⟨v, ho, e, l, r, e', vs, us, ts, t⟩ := h σ G H s
  subst e
  obtain ⟨dx, ob⟩ := t.ob
  exact ⟨.ref p, ho, p, C, dx, _, .ref r, rfl, ob, T.cl, T.nr, tfs_r l r e', k r ts G H (Gr.refl s.i) t.hr t.rr⟩
theorem ev_lenN (ha : EvN2 E ta δ rows) : Ev E (tCB (cLen E.K) (tCons ta tNil)) δ (.int (rows.length : Int)) := fun σ G H Q s k => ha σ G H _ s fun a ts G1 H1 g1 h1 r1 =>
  ⟨.ref a, (ts.map V.ref).length, rfl, .inl ⟨_, SqL.of h1, rfl⟩, by rw [List.length_map, r1.len]; exact k _ G1 H1 g1 rfl⟩
theorem evB_ixN (ha : EvN2 E ta δ rows) (hb : Ev E tb δ (.int z)) (hj : z = (j : Int)) (hx : rows[j]? = some row) : EvB E (tOp (rIxL E.K) ta tb) δ row := fun σ G H Q s k => ha σ G H _ s fun a ts G1 H1 g1 h1 r1 => hb σ G1 H1 _ (s.grow g1) fun y G2 H2 g2 r2 => by
  subst hj
  have r2 : y = .int (j : Int) := r2
  subst r2
  obtain ⟨t, vs, k1, k2, k3⟩ := r1.get hx
  exact ⟨a, ts.map V.ref, (j : Int), .ref t, rfl, rfl, SqL.of (g2.h _ _ h1), atI_nat (by rw [List.getElem?_map, k1]; rfl), k t vs G2 H2 (g1.trans g2) (g2.h _ _ k2) (RpA.mono g2.g _ _ k3)⟩
/-- a comprehension over a borrowed list -/
theorem eic_B {K : PySem.W.Frag} (h : EvB E te δ xs) : EvIc E (iList K te) δ xs := fun σ G H R s k => h σ G H _ s fun a vs G1 H1 g h1 r => by
  refine ⟨a, rfl, ⟨vs, SqL.of h1⟩, k _ G1 H1 g ?_⟩
  have w := (walk_list (K := K) (a := a) (xs := vs)).mono (G' := fun H => Same H1 H) (Y' := fun i H v H' => ∀ G', Same G1 G' → Same G' H → ∃ G2 x, xs[i]? = some x ∧ Gr G' H G2 H' ∧ Rp G2 x v) (fun H s => SqL.of (s _ _ h1)) fun i H v H' hi s y G' e1 e2 => by
    obtain ⟨e, hv⟩ := y
    subst e
    rw [r.len] at hi
    obtain ⟨v', q1, q2⟩ := r.get (List.getElem?_eq_getElem hi)
    rw [hv] at q1; cases q1
    exact ⟨G', _, List.getElem?_eq_getElem hi, Gr.refl e2, Rp.mono e1 _ _ q2⟩
  rw [r.len] at w
  exact w
/-- == [] of a borrowed list -/
theorem ev_eqB0 (ha : EvB E ta δ xs) (hs : SeqAt.shaped (.list xs) = true) : Ev E (tOp (rEqD E.K) ta (tLst tNil)) δ (.bool (decide (xs = []))) := fun σ G H Q s k => ha σ G H _ s fun a vs G1 H1 g1 h1 r1 => ev_lst (E := E) (ds := []) ed_nil (by decide) σ G1 H1 _ (s.grow g1) fun w G2 H2 g2 r2 => by
  have rA : Rp H2 (.list xs) (.ref a) := ⟨a, vs, rfl, g2.h _ _ h1, RpA.mono (g2.g.trans g2.i) _ _ r1⟩
  have e : decide (xs = []) = PyData.eqv (.list xs) (.list []) := by
    cases xs <;> simp [PyData.eqv, PyData.eqvAll]
  rw [e] at k
  exact ⟨.list xs, .list [], dp_of (Same.refl H2) _ _ (shp_lay hs) rA, dp_of (Same.refl H2) _ _ (shp_lay shp_nil) (Rp.mono g2.i _ _ r2), hs, shp_nil, k _ G2 H2 (g1.trans g2) rfl⟩

/-! ### how it is changed -/
theorem nd_ne {α : Type} {a b : α} {l : List α} (h : (a :: l).Nodup) (hb : b ∈ l) : b ≠ a := fun e => (List.nodup_cons.mp h).1 (by rw [← e]; exact hb)
theorem TabF.setL {G G2 F : Hp} {l r e : Addr} {vs us ws : List V} {ts : List Addr} {ss' : List D} (t : TabF C p ss rows ds G F l r e vs us ts) (g : Same G G2) (h : RpA G2 ss' ws) : TabF C p ss' rows ds G2 (upd F l (.lst ws)) l r e ws us ts := by
  have n1 := List.nodup_cons.mp t.nd
  have n2 := List.nodup_cons.mp n1.2
  have pl : p ≠ l := fun z => n1.1 (by rw [z]; simp)
  have ol : ∀ x ∈ r :: e :: ts, x ≠ l := fun x hx z => n2.1 (by rw [← z]; exact hx)
  exact ⟨t.ob.imp fun dx h => by rw [upd_ne pl]; exact h, upd_same, h, by rw [upd_ne (ol r (by simp))]; exact t.hr, t.rr.mono g fun x hx => upd_ne (ol x (by simp [hx])), by rw [upd_ne (ol e (by simp))]; exact t.he, RpA.mono g _ _ t.re, t.nd⟩
theorem TabF.setE {G G2 F : Hp} {l r e : Addr} {vs us ws : List V} {ts : List Addr} {ds' : List D} (t : TabF C p ss rows ds G F l r e vs us ts) (g : Same G G2) (h : RpA G2 ds' ws) : TabF C p ss rows ds' G2 (upd F e (.lst ws)) l r e vs ws ts := by
  have n1 := List.nodup_cons.mp t.nd
  have n2 := List.nodup_cons.mp n1.2
  have n3 := List.nodup_cons.mp n2.2
  have n4 := List.nodup_cons.mp n3.2
  have pe : p ≠ e := fun z => n1.1 (by rw [z]; simp)
  have le : l ≠ e := fun z => n2.1 (by rw [z]; simp)
  have re : r ≠ e := fun z => n3.1 (by rw [z]; simp)
  exact ⟨t.ob.imp fun dx h => by rw [upd_ne pe]; exact h, by rw [upd_ne le]; exact t.hl, RpA.mono g _ _ t.rl, by rw [upd_ne re]; exact t.hr, t.rr.mono g fun x hx => upd_ne fun z => n4.1 (by rw [← z]; exact hx), upd_same, h, t.nd⟩
/-- the outer list is written anew: its items us ts', which may be more -/
theorem TabF.setR {G G2 F F' : Hp} {l r e : Addr} {vs us : List V} {ts ts' : List Addr} {rows' : List (List D)} (t : TabF C p ss rows ds G F l r e vs us ts) (g : Same G G2) (f : ∀ x ∈ p :: l :: e :: [], F' x = F x) (hr : F' r = some (.lst (ts'.map V.ref))) (h : NestR G2 F' ts' rows') (nd : (p :: l :: r :: e :: ts').Nodup) : TabF C p ss rows' ds G2 F' l r e vs us ts' :=
  ⟨t.ob.imp fun dx h => by rw [f p (by simp)]; exact h, by rw [f l (by simp)]; exact t.hl, RpA.mono g _ _ t.rl, hr, h, by rw [f e (by simp)]; exact t.he, RpA.mono g _ _ t.re, nd⟩
theorem evM_tabL (T : TabT E.K mg C) (h0 : δ[i]? = some (.ob (tabB C p ss rows ds))) (ha : Ev E ta δ d) (hz : ss.length < 100000) : EvM E (tBM E.K "list" rAppend (tFld E.K (tVar i) "laid_stones") (tCons ta tNil)) δ (δ.set i (.ob (tabB C p (ss ++ [d]) rows ds))) .none := fun σ G H Q s k => by
  obtain ⟨F, l, r, e, vs, us, ts, ho, q, t⟩ := s.atTab h0
  obtain ⟨dx, ob⟩ := t.ob
  have hl := q.in_ i _ _ t.hl
  refine ⟨.ref p, ho, p, C, dx, _, .ref l, rfl, q.in_ i _ _ ob, T.cl, T.nl, tfs_l l r e, .inl ⟨rfl, _, SqL.of hl⟩, ha σ G H _ s fun v G2 H2 g rv => ?_⟩
  exact ⟨l, vs, v, rfl, rfl, g.h _ _ hl, by rw [t.rl.len]; exact Nat.lt_of_lt_of_le hz (by decide), k _ G2 _ g.g (s.change1 ho q g (by rw [t.hl]; simp) fun G' eg => ⟨rfl, l, r, e, _, us, ts, t.setL (g.g.trans eg) ((RpA.mono (g.g.trans eg) _ _ t.rl).snoc (Rp.mono eg _ _ rv))⟩) rfl⟩
theorem evM_tabD (T : TabT E.K mg C) (h0 : δ[i]? = some (.ob (tabB C p ss rows ds))) (ha : Ev E ta δ d) (hz : ds.length < 100000) : EvM E (tBM E.K "list" rAppend (tFld E.K (tVar i) "deeds") (tCons ta tNil)) δ (δ.set i (.ob (tabB C p ss rows (ds ++ [d])))) .none := fun σ G H Q s k => by
  obtain ⟨F, l, r, e, vs, us, ts, ho, q, t⟩ := s.atTab h0
  obtain ⟨dx, ob⟩ := t.ob
  have hl := q.in_ i _ _ t.he
  refine ⟨.ref p, ho, p, C, dx, _, .ref e, rfl, q.in_ i _ _ ob, T.cl, T.ne, tfs_e l r e, .inl ⟨rfl, _, SqL.of hl⟩, ha σ G H _ s fun v G2 H2 g rv => ?_⟩
  exact ⟨e, us, v, rfl, rfl, g.h _ _ hl, by rw [t.re.len]; exact Nat.lt_of_lt_of_le hz (by decide), k _ G2 _ g.g (s.change1 ho q g (by rw [t.he]; simp) fun G' eg => ⟨rfl, l, r, e, vs, _, ts, t.setE (g.g.trans eg) ((RpA.mono (g.g.trans eg) _ _ t.re).snoc (Rp.mono eg _ _ rv))⟩) rfl⟩
theorem pop_last {G : Hp} {xs : List D} {vs : List V} {d : D} (h : RpA G (xs ++ [d]) vs) : ∃ v, vs[vs.length - 1]? = some v ∧ vs.getLast? = some v ∧ Rp G d v ∧ RpA G xs vs.dropLast := by
  have hl : vs.length = xs.length + 1 := by rw [h.len]; simp
  obtain ⟨v, hv, rv⟩ := h.get (i := xs.length) (d := d) (by simp)
  have hd : vs.dropLast = vs.take xs.length := by rw [List.dropLast_eq_take, hl]; rfl
  refine ⟨v, by rw [hl]; exact hv, by rw [List.getLast?_eq_getElem?, hl]; exact hv, rv, ?_⟩
  rw [hd]
  have := h.take xs.length
  rwa [List.take_left'] at this
  rfl
theorem evM_tabPopL (T : TabT E.K mg C) (h0 : δ[i]? = some (.ob (tabB C p (ss ++ [d]) rows ds))) : EvM E (tBM0 E.K "list" rPop (tFld E.K (tVar i) "laid_stones")) δ (δ.set i (.ob (tabB C p ss rows ds))) d := fun σ G H Q s k => by
  obtain ⟨F, l, r, e, vs, us, ts, ho, q, t⟩ := s.atTab h0
  obtain ⟨dx, ob⟩ := t.ob
  have hl := q.in_ i _ _ t.hl
  obtain ⟨v, h1, h2, h3, h4⟩ := pop_last t.rl
  exact ⟨.ref p, ho, p, C, dx, _, .ref l, rfl, q.in_ i _ _ ob, T.cl, T.nl, tfs_l l r e, .inl ⟨rfl, _, SqL.of hl⟩, l, vs, v, rfl, rfl, hl, h1, k v G _ (Same.refl G) (s.change1 ho q (Gr.refl s.i) (by rw [t.hl]; simp) fun G' eg => ⟨rfl, l, r, e, _, us, ts, t.setL eg (RpA.mono eg _ _ h4)⟩) h3⟩
theorem evM_tabPopD (T : TabT E.K mg C) (h0 : δ[i]? = some (.ob (tabB C p ss rows (ds ++ [d])))) : EvM E (tBM0 E.K "list" rPop (tFld E.K (tVar i) "deeds")) δ (δ.set i (.ob (tabB C p ss rows ds))) d := fun σ G H Q s k => by
  obtain ⟨F, l, r, e, vs, us, ts, ho, q, t⟩ := s.atTab h0
  obtain ⟨dx, ob⟩ := t.ob
  have hl := q.in_ i _ _ t.he
  obtain ⟨v, h1, h2, h3, h4⟩ := pop_last t.re
  exact ⟨.ref p, ho, p, C, dx, _, .ref e, rfl, q.in_ i _ _ ob, T.cl, T.ne, tfs_e l r e, .inl ⟨rfl, _, SqL.of hl⟩, e, us, v, rfl, rfl, hl, h1, k v G _ (Same.refl G) (s.change1 ho q (Gr.refl s.i) (by rw [t.he]; simp) fun G' eg => ⟨rfl, l, r, e, vs, _, ts, t.setE eg (RpA.mono eg _ _ h4)⟩) h3⟩

theorem TabF.ap {G F : Hp} {l r e : Addr} {vs us : List V} {ts : List Addr} (t : TabF C p ss rows ds G F l r e vs us ts) : p ≠ r ∧ l ≠ r ∧ e ≠ r ∧ (∀ x ∈ ts, x ≠ p ∧ x ≠ l ∧ x ≠ r ∧ x ≠ e) ∧ ts.Nodup := by
  have n1 := List.nodup_cons.mp t.nd
  have n2 := List.nodup_cons.mp n1.2
  have n3 := List.nodup_cons.mp n2.2
  have n4 := List.nodup_cons.mp n3.2
  exact ⟨fun z => n1.1 (by rw [z]; simp), fun z => n2.1 (by rw [z]; simp), fun z => n3.1 (by rw [← z]; simp), fun x hx => ⟨fun z => n1.1 (by rw [← z]; simp [hx]), fun z => n2.1 (by rw [← z]; simp [hx]), fun z => n3.1 (by rw [← z]; simp [hx]), fun z => n4.1 (by rw [← z]; exact hx)⟩, n4.2⟩
/-- rows.append([..]) -/
theorem evM_tabPush (T : TabT E.K mg C) (h0 : δ[i]? = some (.ob (tabB C p ss rows ds))) (ha : EvF E ta δ xs) (hz : rows.length < 100000) : EvM E (tBM E.K "list" rAppend (tFld E.K (tVar i) "rows") (tCons ta tNil)) δ (δ.set i (.ob (tabB C p ss (rows ++ [xs]) ds))) .none := fun σ G H Q s k => by
  obtain ⟨F, l, r, e, vs, us, ts, ho, q, t⟩ := s.atTab h0
  obtain ⟨dx, ob⟩ := t.ob
  obtain ⟨pr, lr, er, tsn, tnd⟩ := t.ap
  have hr := q.in_ i _ _ t.hr
  refine ⟨.ref p, ho, p, C, dx, _, .ref r, rfl, q.in_ i _ _ ob, T.cl, T.nr, tfs_r l r e, .inl ⟨rfl, _, SqL.of hr⟩, ha σ G H _ s fun a ws G2 H2 g hpn gpn h2 rw_ => ?_⟩
  have new : ∀ x, F i x ≠ none → x ≠ a := fun x hx z => not_none (q.in_ i) hx (by rw [z]; exact hpn)
  have np := new p (by rw [ob]; simp)
  have nl := new l (by rw [t.hl]; simp)
  have nr := new r (by rw [t.hr]; simp)
  have ne := new e (by rw [t.he]; simp)
  have nt : ¬ a ∈ ts := fun c => by
    obtain ⟨j, hj⟩ := List.mem_iff_getElem?.mp c
    have lt : j < rows.length := by rw [← t.rr.len]; exact (List.getElem?_eq_some_iff.mp hj).1
    obtain ⟨u, w, k1, k2, _⟩ := t.rr.get (List.getElem?_eq_getElem lt)
    rw [hj] at k1; cases k1
    exact new a (by rw [k2]; simp) rfl
  have hr2 := g.h _ _ hr
  refine ⟨r, ts.map V.ref, .ref a, rfl, rfl, hr2, by rw [List.length_map, t.rr.len]; exact Nat.lt_of_lt_of_le hz (by decide), ?_⟩
  refine k _ G2 _ g.g (s.changeF (F' := upd (upd (F i) a (.lst ws)) r (.lst (ts.map V.ref ++ [V.ref a]))) ho q g (fun b o hb hf => ?_) (fun b o hb => ?_) (fun b hb => ?_) fun G' eg => ⟨rfl, l, r, e, vs, us, ts ++ [a], ?_⟩) rfl
  · have : b ≠ r := fun z => by rw [z, t.hr] at hf; cases hf
    rw [upd_ne this]; exact hb
  · by_cases z : b = r
    · subst z; rw [upd_same] at hb ⊢; exact hb
    · rw [upd_ne z] at hb ⊢
      by_cases z2 : b = a
      · subst z2; rw [upd_same] at hb; cases hb; exact h2
      · rw [upd_ne z2] at hb; exact g.h _ _ (q.in_ i b o hb)
  · by_cases z : b = r
    · subst z; exact .inl (by rw [t.hr]; simp)
    · rw [upd_ne z] at hb
      by_cases z2 : b = a
      · subst z2; exact .inr ⟨hpn, gpn⟩
      · rw [upd_ne z2] at hb; exact .inl hb
  · refine t.setR (g.g.trans eg) (fun x hx => ?_) (by rw [upd_same, List.map_append]; rfl) ?_ ?_
    · simp only [List.mem_cons, List.not_mem_nil, or_false] at hx
      rcases hx with rfl | rfl | rfl
      · rw [upd_ne pr, upd_ne np]
      · rw [upd_ne lr, upd_ne nl]
      · rw [upd_ne er, upd_ne ne]
    · refine NestR.snoc ⟨ws, by rw [upd_ne (Ne.symm nr)]; exact upd_same, RpA.mono eg _ _ rw_⟩ (t.rr.mono (g.g.trans eg) fun x hx => ?_)
      rw [upd_ne (tsn x hx).2.2.1, upd_ne (fun z => nt (by rw [← z]; exact hx))]
    · have : (p :: l :: r :: e :: (ts ++ [a])) = (p :: l :: r :: e :: ts) ++ [a] := rfl
      rw [this, List.nodup_append]
      refine ⟨t.nd, by simp, fun x hx y hy z => ?_⟩
      rw [List.mem_singleton] at hy
      rw [hy] at z
      simp only [List.mem_cons] at hx
      rcases hx with c | c | c | c | c
      · exact np (by rw [← c]; exact z)
      · exact nl (by rw [← c]; exact z)
      · exact nr (by rw [← c]; exact z)
      · exact ne (by rw [← c]; exact z)
      · exact nt (by rw [← z]; exact c)
theorem NestR.dropLast {G F : Hp} {xs : List D} : ∀ {ts : List Addr} {rows : List (List D)}, NestR G F ts (rows ++ [xs]) → ∃ ts0 t, ts = ts0 ++ [t] ∧ NestR G F ts0 rows
  | [], [], h => nomatch h
  | [t], [], _ => ⟨[], t, rfl, trivial⟩
  | _ :: _ :: _, [], h => nomatch h.2
  | [], _ :: _, h => nomatch h
  | t :: ts, y :: rows, ⟨h1, h⟩ => by
    obtain ⟨ts0, t', e, h2⟩ := NestR.dropLast h
    exact ⟨t :: ts0, t', by rw [e]; rfl, h1, h2⟩
/-- rows.pop() -/
theorem evR_tabPopR (T : TabT E.K mg C) (h0 : δ[i]? = some (.ob (tabB C p ss (rows ++ [xs]) ds))) : EvR E (tBM0 E.K "list" rPop (tFld E.K (tVar i) "rows")) δ (δ.set i (.ob (tabB C p ss rows ds))) .no := fun σ G H Q s k => by
  obtain ⟨F, l, r, e, vs, us, ts, ho, q, t⟩ := s.atTab h0
  obtain ⟨dx, ob⟩ := t.ob
  obtain ⟨pr, lr, er, tsn, tnd⟩ := t.ap
  obtain ⟨ts0, t', ets, rr0⟩ := t.rr.dropLast
  have hr := q.in_ i _ _ t.hr
  have em : ts.map V.ref = ts0.map V.ref ++ [V.ref t'] := by rw [ets, List.map_append]; rfl
  refine ⟨.ref p, ho, p, C, dx, _, .ref r, rfl, q.in_ i _ _ ob, T.cl, T.nr, tfs_r l r e, .inl ⟨rfl, _, SqL.of hr⟩, r, ts.map V.ref, .ref t', rfl, rfl, hr, by rw [em]; simp, ?_⟩
  have hdl : (ts.map V.ref).dropLast = ts0.map V.ref := by rw [em]; simp
  rw [hdl]
  have s2 : St E (δ.set i (.ob (tabB C p ss rows ds))) σ G (upd H r (.lst (ts0.map V.ref))) := s.change1 ho q (Gr.refl s.i) (by rw [t.hr]; simp) fun G' eg => ⟨rfl, l, r, e, vs, us, ts0, t.setR eg (fun x hx => by
      simp only [List.mem_cons, List.not_mem_nil, or_false] at hx
      rcases hx with rfl | rfl | rfl
      · exact upd_ne pr
      · exact upd_ne lr
      · exact upd_ne er) upd_same (rr0.mono eg fun x hx => upd_ne (tsn x (by rw [ets]; simp [hx])).2.2.1) (by
      have n := t.nd
      rw [ets] at n
      have : (p :: l :: r :: e :: (ts0 ++ [t'])) = (p :: l :: r :: e :: ts0) ++ [t'] := rfl
      rw [this] at n
      exact (List.nodup_append.mp n).1)⟩
  exact k _ G _ (Same.refl G) (s2.addLast (Gr.refl s2.i) (F' := none0) (fun _ _ z => nomatch z) (fun _ z => absurd rfl z) trivial)
/-- a row is written anew -/
theorem St.tabRow {l r e t0 : Addr} {vs us ws w0 : List V} {ts : List Addr} {F : Nat → Hp} {ys : List D} (s : St E δ σ G H) (ho : σ[i]? = some (some (.ref p))) (q : Reg E δ σ G H F) (t : TabF C p ss rows ds G (F i) l r e vs us ts) (g : Gr G H G2 H2) (k1 : ts[j]? = some t0) (k2 : F i t0 = some (.lst w0)) (hw : RpA G2 ys ws) :
    St E (δ.set i (.ob (tabB C p ss (rows.set j ys) ds))) σ G2 (upd H2 t0 (.lst ws)) := by
  obtain ⟨pr, lr, er, tsn, tnd⟩ := t.ap
  have hm : t0 ∈ ts := List.mem_of_getElem? k1
  obtain ⟨n1, n2, n3, n4⟩ := tsn t0 hm
  exact s.change1 ho q g (by rw [k2]; simp) fun G' eg => ⟨rfl, l, r, e, vs, us, ts, t.setR (g.g.trans eg) (fun x hx => by
      simp only [List.mem_cons, List.not_mem_nil, or_false] at hx
      rcases hx with rfl | rfl | rfl
      · exact upd_ne (Ne.symm n1)
      · exact upd_ne (Ne.symm n2)
      · exact upd_ne (Ne.symm n4)) (by rw [upd_ne (Ne.symm n3)]; exact t.hr) (NestR.set (RpA.mono eg _ _ hw) tnd (t.rr.mono (g.g.trans eg) fun _ _ => rfl) k1) t.nd⟩
theorem evM_tabRowApp (T : TabT E.K mg C) (h0 : δ[i]? = some (.ob (tabB C p ss rows ds))) (hb : Ev E tb δ (.int z)) (hj : z = (j : Int)) (hx : rows[j]? = some row) (ha : Ev E ta δ d) (hz : row.length < 100000) :
    EvM E (tBM E.K "list" rAppend (tOp (rIxL E.K) (tFld E.K (tVar i) "rows") tb) (tCons ta tNil)) δ (δ.set i (.ob (tabB C p ss (rows.set j (row ++ [d])) ds))) .none := fun σ G H Q s k => by
  obtain ⟨F, l, r, e, vs, us, ts, ho, q, t⟩ := s.atTab h0
  obtain ⟨dx, ob⟩ := t.ob
  have hr := q.in_ i _ _ t.hr
  refine ⟨.ref p, ho, p, C, dx, _, .ref r, rfl, q.in_ i _ _ ob, T.cl, T.nr, tfs_r l r e, hb σ G H _ s fun y G1 H1 g1 r1 => ?_⟩
  subst hj
  have r1 : y = .int (j : Int) := r1
  subst r1
  obtain ⟨t0, w0, k1, k2, k3⟩ := t.rr.get hx
  have ht := q.in_ i _ _ k2
  refine ⟨r, ts.map V.ref, (j : Int), .ref t0, rfl, rfl, SqL.of (g1.h _ _ hr), atI_nat (by rw [List.getElem?_map, k1]; rfl), .inl ⟨rfl, _, SqL.of (g1.h _ _ ht)⟩, ha σ G1 H1 _ (s.grow g1) fun v G2 H2 g2 r2 => ?_⟩
  have g := g1.trans g2
  exact ⟨t0, w0, v, rfl, rfl, g.h _ _ ht, by rw [k3.len]; exact Nat.lt_of_lt_of_le hz (by decide), k _ G2 _ g.g (s.tabRow ho q t g k1 k2 ((RpA.mono g.g _ _ k3).snoc r2)) rfl⟩
theorem evM_tabRowIns (T : TabT E.K mg C) (h0 : δ[i]? = some (.ob (tabB C p ss rows ds))) (hb : Ev E tb δ (.int z)) (hj : z = (j : Int)) (hx : rows[j]? = some row) (ha : Ev E ta δ d) (hz : row.length < 100000) :
    EvM E (tBM E.K "list" oInsert (tOp (rIxL E.K) (tFld E.K (tVar i) "rows") tb) (tCons (tC (.int 0)) (tCons ta tNil))) δ (δ.set i (.ob (tabB C p ss (rows.set j (d :: row)) ds))) .none := fun σ G H Q s k => by
  obtain ⟨F, l, r, e, vs, us, ts, ho, q, t⟩ := s.atTab h0
  obtain ⟨dx, ob⟩ := t.ob
  have hr := q.in_ i _ _ t.hr
  refine ⟨.ref p, ho, p, C, dx, _, .ref r, rfl, q.in_ i _ _ ob, T.cl, T.nr, tfs_r l r e, hb σ G H _ s fun y G1 H1 g1 r1 => ?_⟩
  subst hj
  have r1 : y = .int (j : Int) := r1
  subst r1
  obtain ⟨t0, w0, k1, k2, k3⟩ := t.rr.get hx
  have ht := q.in_ i _ _ k2
  refine ⟨r, ts.map V.ref, (j : Int), .ref t0, rfl, rfl, SqL.of (g1.h _ _ hr), atI_nat (by rw [List.getElem?_map, k1]; rfl), .inl ⟨rfl, _, SqL.of (g1.h _ _ ht)⟩, ha σ G1 H1 _ (s.grow g1) fun v G2 H2 g2 r2 => ?_⟩
  have g := g1.trans g2
  refine ⟨t0, w0, 0, v, rfl, rfl, g.h _ _ ht, by rw [k3.len]; exact Nat.lt_of_lt_of_le hz (by decide), by decide, by decide, ?_⟩
  have e0 : w0.take (0 : Int).toNat ++ [v] ++ w0.drop (0 : Int).toNat = v :: w0 := by simp
  rw [e0]
  exact k _ G2 _ g.g (s.tabRow ho q t g k1 k2 ⟨v, w0, rfl, r2, RpA.mono g.g _ _ k3⟩) rfl
theorem evM_tabRowPop0 (T : TabT E.K mg C) (h0 : δ[i]? = some (.ob (tabB C p ss rows ds))) (hb : Ev E tb δ (.int z)) (hj : z = (j : Int)) (hx : rows[j]? = some (d :: row)) :
    EvM E (tBM E.K "list" rPopAt (tOp (rIxL E.K) (tFld E.K (tVar i) "rows") tb) (tCons (tC (.int 0)) tNil)) δ (δ.set i (.ob (tabB C p ss (rows.set j row) ds))) d := fun σ G H Q s k => by
  obtain ⟨F, l, r, e, vs, us, ts, ho, q, t⟩ := s.atTab h0
  obtain ⟨dx, ob⟩ := t.ob
  have hr := q.in_ i _ _ t.hr
  refine ⟨.ref p, ho, p, C, dx, _, .ref r, rfl, q.in_ i _ _ ob, T.cl, T.nr, tfs_r l r e, hb σ G H _ s fun y G1 H1 g1 r1 => ?_⟩
  subst hj
  have r1 : y = .int (j : Int) := r1
  subst r1
  obtain ⟨t0, w0, k1, k2, k3⟩ := t.rr.get hx
  have ht := q.in_ i _ _ k2
  obtain ⟨v, w1, ew, rv, rw_⟩ := k3
  subst ew
  refine ⟨r, ts.map V.ref, (j : Int), .ref t0, rfl, rfl, SqL.of (g1.h _ _ hr), atI_nat (by rw [List.getElem?_map, k1]; rfl), .inl ⟨rfl, _, SqL.of (g1.h _ _ ht)⟩, ?_⟩
  exact ⟨t0, v :: w1, 0, 0, v, rfl, rfl, g1.h _ _ ht, by decide, by decide, seqIx_nat (by simp), rfl, k v G1 _ g1.g (s.tabRow ho q t g1 k1 k2 (RpA.mono g1.g _ _ rw_)) (Rp.mono g1.g _ _ rv)⟩
theorem evM_tabRowPop (T : TabT E.K mg C) (h0 : δ[i]? = some (.ob (tabB C p ss rows ds))) (hb : Ev E tb δ (.int z)) (hj : z = (j : Int)) (hx : rows[j]? = some (row ++ [d])) :
    EvM E (tBM0 E.K "list" rPop (tOp (rIxL E.K) (tFld E.K (tVar i) "rows") tb)) δ (δ.set i (.ob (tabB C p ss (rows.set j row) ds))) d := fun σ G H Q s k => by
  obtain ⟨F, l, r, e, vs, us, ts, ho, q, t⟩ := s.atTab h0
  obtain ⟨dx, ob⟩ := t.ob
  have hr := q.in_ i _ _ t.hr
  refine ⟨.ref p, ho, p, C, dx, _, .ref r, rfl, q.in_ i _ _ ob, T.cl, T.nr, tfs_r l r e, hb σ G H _ s fun y G1 H1 g1 r1 => ?_⟩
  subst hj
  have r1 : y = .int (j : Int) := r1
  subst r1
  obtain ⟨t0, w0, k1, k2, k3⟩ := t.rr.get hx
  have ht := q.in_ i _ _ k2
  obtain ⟨v, q1, q2, q3, q4⟩ := pop_last k3
  exact ⟨r, ts.map V.ref, (j : Int), .ref t0, rfl, rfl, SqL.of (g1.h _ _ hr), atI_nat (by rw [List.getElem?_map, k1]; rfl), .inl ⟨rfl, _, SqL.of (g1.h _ _ ht)⟩, t0, w0, v, rfl, rfl, g1.h _ _ ht, q1, k v G1 _ g1.g (s.tabRow ho q t g1 k1 k2 (RpA.mono g1.g _ _ q4)) (Rp.mono g1.g _ _ q3)⟩

/-! ### a new table -/
def sp_T_init (K : PySem.W.Frag) (C : Addr) : Sp := fun vs H Q _ => ∃ p dx, vs = [.ref p] ∧ H p = some (.ins C dx []) ∧ ∀ l r e H', H l = none → H r = none → H e = none → (p :: l :: r :: e :: ([] : List Addr)).Nodup →
  H' p = some (.ins C dx (tfs l r e)) → H' l = some (.lst []) → H' r = some (.lst []) → H' e = some (.lst []) → (∀ b o, H b = some o → b ≠ p → H' b = some o) → Q .non H'
theorem q_make {u : TS} {XE : XK} (k : ∀ p, Xs E u (δ.set i (.ob (tabB C p [] [] []))) Φ) : Xs E (tSeq (tAsg (tMake C (sp_T_init E.K C) [] XE tNil) (gName i)) u) δ Φ := xs_seq fun σ G H X s pq => by
  intro x dx hx hdx nex
  refine ⟨x, dx, rfl, upd_same, fun l r e H' hl hr he nd k1 k2 k3 k4 k5 => ⟨rfl, ?_⟩⟩
  have old : ∀ b, upd (upd H dx (.own x)) x (.ins C dx []) b = none → H b = none := fun b hb => by
    by_cases z : b = x
    · subst z; exact hx
    · rw [upd_ne z] at hb
      by_cases z2 : b = dx
      · subst z2; exact hdx
      · rw [upd_ne z2] at hb; exact hb
  have sH : Same H H' := fun b o h => k5 b o (by rw [upd_ne (ne_of_none h hx), upd_ne (ne_of_none h hdx)]; exact h) (ne_of_none h hx)
  have g : Gr G H G H' := Gr.side s.i sH
  refine pq (.nx (δ.set i (.ob (tabB C x [] [] [])))) (k x) _ G H' (Same.refl G) (s.put g i (.ob (tabB C x [] [] [])) (some (.ref x)) (fun a => if a ∈ [x, l, r, e] then H' a else none) (fun a o h => ?_) (fun a h => ?_) ⟨_, rfl, fun G' eg => ⟨rfl, l, r, e, [], [], [], ⟨dx, ?_⟩, ?_, rfl, ?_, trivial, ?_, rfl, nd⟩⟩)
  · try dsimp only at h
    split at h
    · exact h
    · cases h
  · try dsimp only at h
    split at h
    · rename_i c
      simp only [List.mem_cons, List.not_mem_nil, or_false] at c
      have : H a = none := by
        rcases c with rfl | rfl | rfl | rfl
        · exact hx
        · exact old _ hl
        · exact old _ hr
        · exact old _ he
      exact ⟨this, s.i.free this⟩
    · exact absurd rfl h
  · exact (if_pos (by simp)).trans k1
  · exact (if_pos (by simp)).trans k2
  · exact (if_pos (by simp)).trans k3
  · exact (if_pos (by simp)).trans k4
end
end PL

/-! PMod: an own list of two own lists; loops over what is borrowed; everything lent for a call that hands back no reference; two own things handed over. -/
namespace PL
open PySem PySem.Spec PyProof.Rows L2
structure ModF (p : Addr) (xs rs : List D) (G F : Hp) (a b : Addr) (vs us : List V) : Prop where
  hp : F p = some (.lst [.ref a, .ref b])
  ha : F a = some (.lst vs)
  ra : RpA G xs vs
  hb : F b = some (.lst us)
  rb : RpA G rs us
  nd : [p, a, b].Nodup
def modB (p : Addr) (xs rs : List D) : Hp → Hp → V → Prop := fun G F v => v = .ref p ∧ ∃ a b vs us, ModF p xs rs G F a b vs us
theorem mod_mono {p : Addr} {xs rs : List D} : Mono2 (modB p xs rs) := ⟨fun {G G2 H H2 v} e f ⟨h, a, b, vs, us, t⟩ => ⟨h, a, b, vs, us, f _ _ t.hp, f _ _ t.ha, RpA.mono e _ _ t.ra, f _ _ t.hb, RpA.mono e _ _ t.rb, t.nd⟩⟩
theorem mod_pin {p : Addr} {xs rs : List D} : PinS p (modB p xs rs) := fun _ _ _ h => h.1
section
variable {E : Ent} {δ δ' : List Sl} {σ : L2.St} {G H G2 H2 : Hp} {te ta tb tc : TE} {d : D} {Φ : Out → Prop} {p : Addr} {xs rs ds : List D} {i j : Nat} {z : Int} {u : TS}
theorem St.atMod (s : St E δ σ G H) (h0 : δ[i]? = some (.ob (modB p xs rs))) : ∃ F a b vs us, σ[i]? = some (some (.ref p)) ∧ Reg E δ σ G H F ∧ ModF p xs rs G (F i) a b vs us := by
  obtain ⟨o, ho⟩ := s.here h0
  obtain ⟨F, q⟩ := s.rg
  obtain ⟨v, e, hs⟩ := q.sl i _ o h0 ho
  subst e
  obtain ⟨e, a, b, vs, us, t⟩ := hs G (Same.refl G)
  subst e
  exact ⟨F, a, b, vs, us, ho, q, t⟩
theorem ModF.ap {G F : Hp} {a b : Addr} {vs us : List V} (t : ModF p xs rs G F a b vs us) : p ≠ a ∧ p ≠ b ∧ a ≠ b := by
  have n1 := List.nodup_cons.mp t.nd
  have n2 := List.nodup_cons.mp n1.2
  exact ⟨fun z => n1.1 (by rw [z]; simp), fun z => n1.1 (by rw [z]; simp), fun z => n2.1 (by rw [z]; simp)⟩
theorem ModF.setA {G G2 F : Hp} {a b : Addr} {vs us ws : List V} {ys : List D} (t : ModF p xs rs G F a b vs us) (g : Same G G2) (h : RpA G2 ys ws) : ModF p ys rs G2 (upd F a (.lst ws)) a b ws us := by
  obtain ⟨n1, n2, n3⟩ := t.ap
  exact ⟨by rw [upd_ne n1]; exact t.hp, upd_same, h, by rw [upd_ne (Ne.symm n3)]; exact t.hb, RpA.mono g _ _ t.rb, t.nd⟩
theorem ModF.setB {G G2 F : Hp} {a b : Addr} {vs us ws : List V} {ys : List D} (t : ModF p xs rs G F a b vs us) (g : Same G G2) (h : RpA G2 ys ws) : ModF p xs ys G2 (upd F b (.lst ws)) a b vs ws := by
  obtain ⟨n1, n2, n3⟩ := t.ap
  exact ⟨by rw [upd_ne n2]; exact t.hp, by rw [upd_ne n3]; exact t.ha, RpA.mono g _ _ t.ra, upd_same, h, t.nd⟩
theorem evB_m0 (h : HasB E δ i (modB p xs rs)) : EvB E (tOp (rIxL E.K) (tVar i) (tC (.int 0))) δ xs := fun σ G H Q s k => by
  obtain ⟨v, ho, e, a, b, vs, us, t⟩ := h σ G H s
  subst e
  exact ⟨.ref p, ho, p, [.ref a, .ref b], 0, .ref a, rfl, rfl, SqL.of t.hp, atI_0, k a vs G H (Gr.refl s.i) t.ha t.ra⟩
theorem evB_m1 (h : HasB E δ i (modB p xs rs)) : EvB E (tOp (rIxL E.K) (tVar i) (tC (.int 1))) δ rs := fun σ G H Q s k => by
  obtain ⟨v, ho, e, a, b, vs, us, t⟩ := h σ G H s
  subst e
  exact ⟨.ref p, ho, p, [.ref a, .ref b], 1, .ref b, rfl, rfl, SqL.of t.hp, atI_1, k b us G H (Gr.refl s.i) t.hb t.rb⟩
theorem evM_m0App (h0 : δ[i]? = some (.ob (modB p xs rs))) (ha : Ev E ta δ d) (hz : xs.length < 100000) : EvM E (tBM E.K "list" rAppend (tOp (rIxL E.K) (tVar i) (tC (.int 0))) (tCons ta tNil)) δ (δ.set i (.ob (modB p (xs ++ [d]) rs))) .none := fun σ G H Q s k => by
  obtain ⟨F, a, b, vs, us, ho, q, t⟩ := s.atMod h0
  have hl := q.in_ i _ _ t.ha
  refine ⟨.ref p, ho, p, [.ref a, .ref b], 0, .ref a, rfl, rfl, SqL.of (q.in_ i _ _ t.hp), atI_0, .inl ⟨rfl, _, SqL.of hl⟩, ha σ G H _ s fun v G2 H2 g rv => ?_⟩
  exact ⟨a, vs, v, rfl, rfl, g.h _ _ hl, by rw [t.ra.len]; exact Nat.lt_of_lt_of_le hz (by decide), k _ G2 _ g.g (s.change1 ho q g (by rw [t.ha]; simp) fun G' eg => ⟨rfl, a, b, _, us, t.setA (g.g.trans eg) ((RpA.mono (g.g.trans eg) _ _ t.ra).snoc (Rp.mono eg _ _ rv))⟩) rfl⟩
theorem evM_m1App (h0 : δ[i]? = some (.ob (modB p xs rs))) (ha : Ev E ta δ d) (hz : rs.length < 100000) : EvM E (tBM E.K "list" rAppend (tOp (rIxL E.K) (tVar i) (tC (.int 1))) (tCons ta tNil)) δ (δ.set i (.ob (modB p xs (rs ++ [d])))) .none := fun σ G H Q s k => by
  obtain ⟨F, a, b, vs, us, ho, q, t⟩ := s.atMod h0
  have hl := q.in_ i _ _ t.hb
  refine ⟨.ref p, ho, p, [.ref a, .ref b], 1, .ref b, rfl, rfl, SqL.of (q.in_ i _ _ t.hp), atI_1, .inl ⟨rfl, _, SqL.of hl⟩, ha σ G H _ s fun v G2 H2 g rv => ?_⟩
  exact ⟨b, us, v, rfl, rfl, g.h _ _ hl, by rw [t.rb.len]; exact Nat.lt_of_lt_of_le hz (by decide), k _ G2 _ g.g (s.change1 ho q g (by rw [t.hb]; simp) fun G' eg => ⟨rfl, a, b, vs, _, t.setB (g.g.trans eg) ((RpA.mono (g.g.trans eg) _ _ t.rb).snoc (Rp.mono eg _ _ rv))⟩) rfl⟩
theorem evM_m0Pop (h0 : δ[i]? = some (.ob (modB p (xs ++ [d]) rs))) : EvM E (tBM0 E.K "list" rPop (tOp (rIxL E.K) (tVar i) (tC (.int 0)))) δ (δ.set i (.ob (modB p xs rs))) d := fun σ G H Q s k => by
  obtain ⟨F, a, b, vs, us, ho, q, t⟩ := s.atMod h0
  have hl := q.in_ i _ _ t.ha
  obtain ⟨v, h1, h2, h3, h4⟩ := pop_last t.ra
  exact ⟨.ref p, ho, p, [.ref a, .ref b], 0, .ref a, rfl, rfl, SqL.of (q.in_ i _ _ t.hp), atI_0, .inl ⟨rfl, _, SqL.of hl⟩, a, vs, v, rfl, rfl, hl, h1, k v G _ (Same.refl G) (s.change1 ho q (Gr.refl s.i) (by rw [t.ha]; simp) fun G' eg => ⟨rfl, a, b, _, us, t.setA eg (RpA.mono eg _ _ h4)⟩) h3⟩
theorem evM_m1Pop (h0 : δ[i]? = some (.ob (modB p xs (rs ++ [d])))) : EvM E (tBM0 E.K "list" rPop (tOp (rIxL E.K) (tVar i) (tC (.int 1)))) δ (δ.set i (.ob (modB p xs rs))) d := fun σ G H Q s k => by
  obtain ⟨F, a, b, vs, us, ho, q, t⟩ := s.atMod h0
  have hl := q.in_ i _ _ t.hb
  obtain ⟨v, h1, h2, h3, h4⟩ := pop_last t.rb
  exact ⟨.ref p, ho, p, [.ref a, .ref b], 1, .ref b, rfl, rfl, SqL.of (q.in_ i _ _ t.hp), atI_1, .inl ⟨rfl, _, SqL.of hl⟩, b, us, v, rfl, rfl, hl, h1, k v G _ (Same.refl G) (s.change1 ho q (Gr.refl s.i) (by rw [t.hb]; simp) fun G' eg => ⟨rfl, a, b, vs, _, t.setB eg (RpA.mono eg _ _ h4)⟩) h3⟩
theorem xs_m1Set (h0 : δ[i]? = some (.ob (modB p xs rs))) (ha : Ev E ta δ d) (hb : Ev E tb δ (.int z)) (hj : z = (j : Int)) (hl : j < rs.length) (n : Φ (.nx (δ.set i (.ob (modB p xs (rs.set j d)))))) : Xs E (tAsg ta (gSub (tOp (rIxL E.K) (tVar i) (tC (.int 1))) tb rSetL)) δ Φ := fun σ G H X s pq => by
  refine ha σ G H _ s fun v G1 H1 g1 r1 => ?_
  have s1 := s.grow g1
  obtain ⟨F, a, b, vs, us, ho, q, t⟩ := s1.atMod h0
  have hu := q.in_ i _ _ t.hb
  refine ⟨.ref p, ho, p, [.ref a, .ref b], 1, .ref b, rfl, rfl, SqL.of (q.in_ i _ _ t.hp), atI_1, hb σ G1 H1 _ s1 fun y G2 H2 g2 r2 => ?_⟩
  subst hj
  have r2 : y = .int (j : Int) := r2
  subst r2
  refine ⟨b, us, (j : Int), j, rfl, rfl, g2.h _ _ hu, by
    have : j < us.length := by rw [t.rb.len]; exact hl
    unfold ixN; rw [if_pos (by omega), if_pos (by omega)]; simp, ?_⟩
  exact pq _ n σ G2 _ (g1.g.trans g2.g) (s1.change1 ho q g2 (by rw [t.hb]; simp) fun G' eg => ⟨rfl, a, b, vs, _, t.setB (g2.g.trans eg) ((RpA.mono (g2.g.trans eg) _ _ t.rb).set (Rp.mono (g2.g.trans eg) _ _ r1) j)⟩)
/-- m = [[], []] -/
theorem q_mod (k : ∀ p, Xs E u (δ.set i (.ob (modB p [] []))) Φ) : Xs E (tSeq (tAsg (tLst (tCons (tLst tNil) (tCons (tLst tNil) tNil))) (gName i)) u) δ Φ := xs_seq fun σ G H X s pq => by
  show tLst tNil σ H fun v H1 => tLst tNil σ H1 fun w H2 => [v, w].length ≤ sizeLine ∧ ∀ p, H2 p = none → X.nx (σ.set i (some (.ref p))) (upd H2 p (.lst [v, w]))
  refine evF_lst (E := E) (δ := δ) (t := tNil) (ds := []) ed_nil (by decide) σ G H _ s fun a vs G1 H1 g1 ha1 ga1 h1 r1 => ?_
  refine evF_lst (E := E) (δ := δ) (t := tNil) (ds := []) ed_nil (by decide) σ G1 H1 _ (s.grow g1) fun b us G2 H2 g2 hb1 gb1 h2 r2 => ?_
  refine ⟨by show 2 ≤ sizeLine; decide, fun p hp => ?_⟩
  have r1 : vs = [] := r1
  have r2 : us = [] := r2
  subst r1 r2
  have ha2 := g2.h _ _ h1
  have ga2 : G2 a = none := g2.n a (by rw [h1]; simp) ga1
  have nab : a ≠ b := fun z => by rw [z, hb1] at h1; cases h1
  have npa : p ≠ a := fun z => by rw [z, ha2] at hp; cases hp
  have npb : p ≠ b := fun z => by rw [z, h2] at hp; cases hp
  have g := g1.trans g2
  refine pq (.nx (δ.set i (.ob (modB p [] [])))) (k p) _ G2 _ g.g (s.put (g.trans (Gr.side g.i (same_new hp))) i (.ob (modB p [] [])) (some (.ref p)) (fun x => if x ∈ [p, a, b] then upd H2 p (.lst [.ref a, .ref b]) x else none) (fun x o h => ?_) (fun x h => ?_) ⟨_, rfl, fun G' eg => ⟨rfl, a, b, [], [], ?_, ?_, rfl, ?_, rfl, by simp [npa, npb, nab]⟩⟩)
  · try dsimp only at h
    split at h
    · exact h
    · cases h
  · try dsimp only at h
    split at h
    · rename_i c
      simp only [List.mem_cons, List.not_mem_nil, or_false] at c
      rcases c with rfl | rfl | rfl
      · exact ⟨g.h.free hp, g.i.free hp⟩
      · exact ⟨ha1, ga2⟩
      · exact ⟨g1.h.free hb1, gb1⟩
    · exact absurd rfl h
  · exact (if_pos (by simp)).trans upd_same
  · exact (if_pos (by simp)).trans ((upd_ne (Ne.symm npa)).trans ha2)
  · exact (if_pos (by simp)).trans ((upd_ne (Ne.symm npb)).trans h2)

/-! ### everything lent -/
def Sl.nobody : Sl → Prop
  | .no => True
  | .d _ => True
  | .v _ => True
  | .s _ => True
  | .ob P => ∃ (B : Hp → Hp → V → Prop) (H0 : Hp), P = (fun G _ v => B G H0 v) ∧ ∀ G G2 v, Same G G2 → B G H0 v → B G2 H0 v
  | _ => False
theorem Ev.lendAll {δ : List Sl} (nb : ∀ t ∈ δ, t.nobody) (h : ∀ E2 : Ent, E2.K = E.K → Same E.H E2.G → Ev E2 te δ d) (hs : scalD d = true) : Ev E te δ d := fun σ G H Q s k => by
  have s2 : St ⟨E.K, H, H⟩ δ σ H H := by
    obtain ⟨F, q⟩ := s.rg
    refine ⟨Same.refl H, Same.refl H, fun _ _ z => z, Same.refl H, s.len, fun _ => none0, ⟨fun _ _ _ z => (nomatch z), fun _ _ z => absurd rfl z, fun _ _ _ _ z => absurd rfl z, fun j t o h1 h2 => ?_⟩⟩
    have q1 := q.sl j t o h1 h2
    have n1 := nb t (List.mem_of_getElem? h1)
    cases t with
    | no => trivial
    | d x => obtain ⟨v, e, r⟩ := q1; exact ⟨v, e, Rp.mono s.i _ _ r⟩
    | v x => exact q1
    | s ns => obtain ⟨a, e, r⟩ := q1; exact ⟨a, e, Same.seq s.h r⟩
    | ow _ => exact n1.elim
    | od _ => exact n1.elim
    | ob P =>
      obtain ⟨B, H0, rfl, m⟩ := n1
      obtain ⟨v, e, r⟩ := q1
      exact ⟨v, e, fun G' eg => m _ _ _ (s.i.trans eg) (r G (Same.refl G))⟩
  exact h ⟨E.K, H, H⟩ rfl s.h σ H H Q s2 fun v G2 H2 g r => k v G H2 (Gr.side s.i g.h) (scal_rp hs r)
/-- in the lent world a borrowed list is data -/
theorem EvB.ev {E2 : Ent} (h : EvB E2 te δ xs) (std : ∀ σ G H (Q : VK), St E2 δ σ G H → (∀ a vs, G a = some (.lst vs) → RpA G xs vs → Q (.ref a) H) → te σ H Q) : Ev E2 te δ (.list xs) := fun σ G H Q s k =>
  std σ G H Q s fun a vs h1 h2 => k (.ref a) G H (Gr.refl s.i) ⟨a, vs, rfl, h1, h2⟩
theorem ev_m1L {E2 : Ent} {H0 : Hp} (h0 : δ[i]? = some (bor (modB p xs rs) H0)) (e : Same H0 E2.G) : Ev E2 (tOp (rIxL E2.K) (tVar i) (tC (.int 1))) δ (.list rs) := fun σ G H Q s k => by
  obtain ⟨o, ho⟩ := s.here h0
  obtain ⟨F, q⟩ := s.rg
  obtain ⟨v, ev, hs⟩ := q.sl i _ o h0 ho
  subst ev
  obtain ⟨ev, a, b, vs, us, t⟩ := hs G (Same.refl G)
  subst ev
  have eG : Same H0 G := e.trans s.g
  exact ⟨.ref p, ho, p, [.ref a, .ref b], 1, .ref b, rfl, rfl, SqL.of (s.i _ _ (eG _ _ t.hp)), atI_1, k _ G H (Gr.refl s.i) ⟨b, us, rfl, eG _ _ t.hb, t.rb⟩⟩
end
end PL

/-! PObj2: loops over what is borrowed, lists of new lists made of it; two own things handed over; methods by their promises. -/
namespace PL
open PySem PySem.Spec PyProof.Rows L2
/-- a list that stands at the entry -/
def EvE (E : Ent) (te : TE) (δ : List Sl) (xs : List D) : Prop := ∀ σ G H (Q : VK), St E δ σ G H → (∀ a vs, E.H a = some (.lst vs) → RpA G xs vs → Q (.ref a) H) → te σ H Q
section
variable {E : Ent} {δ δ' : List Sl} {σ : L2.St} {G H G2 H2 : Hp} {te ta tb tc : TE} {d : D} {r : Sl} {Φ : Out → Prop} {p : Addr} {xs rs ds : List D} {rows : List (List D)} {i j : Nat} {z : Int} {u tb' : TS} {g : TG} {K : PySem.W.Frag} {wi : TI}
theorem xs_forE (he : EvE E te δ xs) (Inv : Nat → List Sl → Prop) (h0 : Inv 0 δ) (turn : ∀ i x δ', xs[i]? = some x → Inv i δ' → ∃ js δ2, Tg E js g x δ' δ2 ∧ Xs E tb' δ2 (TurnO (Inv (i + 1)) Φ)) (done : ∀ δ', Inv xs.length δ' → Φ (.nx δ')) :
    Xs E (tFor (iList K te) g tb') δ Φ := fun σ G H X s p => he σ G H _ s fun a vs h1 r => by
  refine ⟨a, rfl, ⟨vs, SqL.of (s.h _ _ h1)⟩, ?_⟩
  refine for_it (walk_list (K := K) (a := a) (xs := vs)) (fun i σ' H' => ∃ δ' G', Same G G' ∧ Inv i δ' ∧ St E δ' σ' G' H') ⟨δ, G, Same.refl _, h0, s⟩ (fun i σ' H' _ ⟨δ', G', e, _, s'⟩ => SqL.of (s'.h _ _ h1)) (fun i v σ' H' H2 hi' ⟨δ', G', e, inv, s'⟩ y => ?_) (fun σ' H' ⟨δ', G', e, inv, s'⟩ => p _ (done δ' (by rw [← r.len]; exact inv)) σ' G' H' e s')
  obtain ⟨e2, hv⟩ := y
  subst e2
  rw [r.len] at hi'
  obtain ⟨v', q1, q2⟩ := r.get (List.getElem?_eq_getElem hi')
  rw [hv] at q1; cases q1
  obtain ⟨js, δ2, tg, body⟩ := turn i xs[i] δ' (List.getElem?_eq_getElem hi') inv
  refine tg σ' G' _ _ v s' (Rp.mono e _ _ q2) fun σ3 s3 _ => body σ3 G' _ _ s3 fun o q => ?_
  cases o with
  | nx δ3 => exact fun σ4 G4 H4 e4 s4 => ⟨δ3, G4, e.trans e4, q, s4⟩
  | ct δ3 => exact fun σ4 G4 H4 e4 s4 => ⟨δ3, G4, e.trans e4, q, s4⟩
  | bk δ3 => exact (p _ q).mono (G := G) e
  | rt d => exact p _ q
  | rl d => exact p _ q
  | rk d => exact p _ q
  | rf d => exact p _ q
  | rm _ _ => exact (p _ q).mono (G := G) e
theorem evE_m1 (h0 : δ[i]? = some (bor (modB p xs rs) E.H)) : EvE E (tOp (rIxL E.K) (tVar i) (tC (.int 1))) δ rs := fun σ G H Q s k => by
  obtain ⟨o, ho⟩ := s.here h0
  obtain ⟨F, q⟩ := s.rg
  obtain ⟨v, ev, hs⟩ := q.sl i _ o h0 ho
  subst ev
  obtain ⟨ev, a, b, vs, us, t⟩ := hs G (Same.refl G)
  subst ev
  exact ⟨.ref p, ho, p, [.ref a, .ref b], 1, .ref b, rfl, rfl, SqL.of (s.h _ _ t.hp), atI_1, k b us t.hb t.rb⟩
/-- a borrowed list -/
def listB (xs : List D) : Hp → Hp → V → Prop := fun G H v => ∃ t vs, v = .ref t ∧ H t = some (.lst vs) ∧ RpA G xs vs
theorem list_mono {xs : List D} : Mono2 (listB xs) := ⟨fun e f ⟨t, vs, h1, h2, h3⟩ => ⟨t, vs, h1, f _ _ h2, RpA.mono e _ _ h3⟩⟩
theorem evB_list (h : HasB E δ i (listB xs)) : EvB E (tVar i) δ xs := fun σ G H Q s k => by
  obtain ⟨v, ho, t, vs, e, h1, h2⟩ := h σ G H s
  subst e
  exact ⟨_, ho, k t vs G H (Gr.refl s.i) h1 h2⟩
theorem tgP_bor {B : Hp → Hp → V → Prop} (m : Mono2 B) : TgP E [j] (gName j) (fun G v => B G E.H v) δ (δ.set j (bor B E.H)) := fun σ G H Q v s r k => k _ (s.putB j _ _ ⟨v, rfl, fun G' e => m.m e (Same.refl _) r⟩) fun vs h => wipe_set (h j (by simp))
/-- walking the borrowed rows -/
theorem eip_rows {C : Addr} {ss : List D} {mg : Str → Option Value} (T : TabT E.K mg C) (h0 : δ[i]? = some (bor (tabB C p ss rows ds) E.H)) : EvIp E (iList K (tFld E.K (tVar i) "rows")) δ (rows.map fun row G v => listB row G E.H v) := fun σ G H R s k => by
  obtain ⟨o, ho⟩ := s.here h0
  obtain ⟨F, q⟩ := s.rg
  obtain ⟨v, ev, hs⟩ := q.sl i _ o h0 ho
  subst ev
  obtain ⟨ev, l, r, e', vs, us, ts, t⟩ := hs G (Same.refl G)
  subst ev
  obtain ⟨dx, ob⟩ := t.ob
  refine ⟨.ref p, ho, p, C, dx, _, .ref r, rfl, s.h _ _ ob, T.cl, T.nr, tfs_r l r e', ?_⟩
  refine ⟨r, rfl, ⟨_, SqL.of (s.h _ _ t.hr)⟩, k _ G H (Gr.refl s.i) ?_⟩
  have w := (walk_list (K := K) (a := r) (xs := ts.map V.ref)).mono (G' := fun H' => Same H H') (Y' := fun i' H1 v H' => ∀ G', Same G G' → Same G' H1 → ∃ G2 P, (rows.map fun row G v => listB row G E.H v)[i']? = some P ∧ Gr G' H1 G2 H' ∧ P G2 v) (fun H' e => SqL.of (e _ _ (s.h _ _ t.hr))) fun i' H1 v H' hi e y G' e1 e2 => by
    obtain ⟨ee, hv⟩ := y
    subst ee
    rw [List.length_map, t.rr.len] at hi
    obtain ⟨t0, w0, k1, k2, k3⟩ := t.rr.get (List.getElem?_eq_getElem hi)
    have hv2 : v = .ref t0 := by
      rw [List.getElem?_map, k1] at hv
      exact (Option.some.inj hv).symm
    subst hv2
    exact ⟨G', fun G v => listB rows[i'] G E.H v, by rw [List.getElem?_map, List.getElem?_eq_getElem hi]; rfl, Gr.refl e2, (show listB rows[i'] G' E.H (.ref t0) from ⟨t0, w0, rfl, k2, RpA.mono e1 _ _ k3⟩)⟩
  rw [List.length_map, t.rr.len] at w
  unfold WalkP
  rw [List.length_map]
  exact w
/-- [.. for ..], each item a new list -/
theorem evO_nestLc {α : Type} (ls : List α) (enc : α → Hp → V → Prop) (val : α → List D) {vs : List Nat} (hi : EvIp E wi δ (ls.map enc)) (hz : ls.length ≤ 100000)
    (turn : ∀ a, a ∈ ls → ∃ js δ2, (∀ j ∈ js, j ∈ vs) ∧ TgP E js g (enc a) (wipeS δ vs) δ2 ∧ EvF E te δ2 (val a)) : EvO E (tLc wi g tYes te vs) δ (nest (ls.map val)) := fun σ G H Q s k => hi σ G H _ s fun J G1 H1 g1 w => by
  intro Dl hD
  have s1 := s.grow g1
  have lenw : (ls.map enc).length = ls.length := List.length_map _
  have gD : G1 Dl = none := g1.i.free hD
  refine lc_it w (fun i H' => ∃ G' ts, Same G1 G' ∧ Same H1 H' ∧ Same G' H' ∧ (∀ a, H1 a ≠ none → G1 a = none → G' a = none) ∧ G' Dl = none ∧ H' Dl = some (.lst (ts.map V.ref)) ∧ NestR G' H' ts ((ls.take i).map val) ∧ (Dl :: ts).Nodup ∧ ∀ t ∈ ts, H1 t = none ∧ G' t = none) ⟨G1, [], Same.refl _, same_new hD, same_mut g1.i gD, fun _ _ h => h, gD, upd_same, trivial, by simp, fun _ h => absurd h (by simp)⟩ (fun i H' _ ⟨G', ts, e, eh, _⟩ => eh) (fun i v H' H2 hi' ⟨G', ts, e, eh, i', n', gd, hd, r, ndp, nw⟩ y => ?_) (fun H' ⟨G', ts, e, eh, i', n', gd, hd, r, ndp, nw⟩ => ?_)
  · obtain ⟨G2, x, hx, g2, rx⟩ := y G' e i'
    rw [lenw] at hi'
    have hx2 : x = enc ls[i] := by
      rw [List.getElem?_map, List.getElem?_eq_getElem hi'] at hx
      exact (Option.some.inj hx).symm
    subst hx2
    obtain ⟨js, δ2, hj, tg, elt⟩ := turn ls[i] (List.getElem_mem hi')
    have gr2 : Gr G1 H1 G2 H2 := (⟨e, eh, n', i'⟩ : Gr G1 H1 G' H').trans g2
    have s2 := (s1.grow gr2).wiped vs
    have tk : ls.take (i + 1) = ls.take i ++ [ls[i]] := by rw [List.take_succ, List.getElem?_eq_getElem hi']; rfl
    have hd2 : H2 Dl = some (.lst (ts.map V.ref)) := g2.h _ _ hd
    have gd2 : G2 Dl = none := g2.n Dl (by rw [hd]; simp) gd
    refine tg _ G2 H2 _ v s2 rx fun σ3 s3 wp => ⟨by rw [wp vs hj, wipe_wipe], et_yes (E := E) σ3 G2 H2 _ s3 fun G3 H3 g3 => ?_⟩
    rw [if_pos rfl]
    have gd2 : G3 Dl = none := g3.n Dl (by rw [hd2]; simp) gd2
    have hd2 : H3 Dl = some (.lst (ts.map V.ref)) := g3.h _ _ hd2
    have gr2 := gr2.trans g3
    have g2 := g2.trans g3
    refine elt σ3 G3 H3 _ (s3.grow g3) fun q us G4 H4 g4 hq gq hq4 rz => ?_
    have gr4 := gr2.trans g4
    have hd4 : H4 Dl = some (.lst (ts.map V.ref)) := g4.h _ _ hd2
    have gd4 : G4 Dl = none := g4.n Dl (by rw [hd2]; simp) gd2
    have nq : Dl ≠ q := fun e => by rw [← e, hd2] at hq; cases hq
    have hts : ∀ t ∈ ts, H' t ≠ none := fun t ht => by
      obtain ⟨j, hj⟩ := List.mem_iff_getElem?.mp ht
      have lt : j < ((ls.take i).map val).length := by rw [← r.len]; exact (List.getElem?_eq_some_iff.mp hj).1
      obtain ⟨t', vs', m1, m2, _⟩ := r.get (List.getElem?_eq_getElem lt)
      rw [hj] at m1; cases m1
      rw [m2]; simp
    have nqt : ¬ q ∈ ts := fun c => absurd hq (not_none g2.h (hts q c))
    refine ⟨ts.map V.ref, hd4, ?_, G4, ts ++ [q], gr4.g, same_mut gr4.h hD, same_mut gr4.i gd4, gr4.n, gd4, by rw [List.map_append]; exact upd_same, ?_, ?_, fun t ht => ?_⟩
    · rw [List.length_map, r.len, List.length_map, List.length_take]
      have h3 : (100000 : Nat) < sizeLine := by decide
      omega
    · rw [tk, List.map_append]
      have np : ¬ Dl ∈ ts := (List.nodup_cons.mp ndp).1
      refine NestR.snoc ⟨us, by rw [upd_ne (Ne.symm nq)]; exact hq4, rz⟩ ((r.grow (g2.g.trans g4.g) (g2.h.trans g4.h)).mono (Same.refl _) fun t ht => upd_ne (fun e => np (by rw [← e]; exact ht)))
    · rw [← List.cons_append, List.nodup_append]
      exact ⟨ndp, by simp, fun x hx y hy e => by
        rw [List.mem_singleton] at hy
        rw [hy] at e
        rcases List.mem_cons.mp hx with c | c
        · exact nq (c.symm.trans e)
        · exact nqt (by rw [← e]; exact c)⟩
    · rcases List.mem_append.mp ht with c | c
      · exact ⟨(nw t c).1, (g2.trans g4).n t (hts t c) (nw t c).2⟩
      · rw [List.mem_singleton] at c
        subst c
        exact ⟨gr2.h.free hq, gq⟩
  · rw [lenw, List.take_length] at r
    have gall : Gr G H G' H' := ⟨g1.g.trans e, g1.h.trans eh, fun a ha ga => n' a (fun z => by
      cases q : H a with
      | none => exact ha q
      | some o => rw [g1.h a o q] at z; cases z) (g1.n a ha ga), i'⟩
    refine k (.ref Dl) (fun a => if a ∈ Dl :: ts then H' a else none) G' H' gall (fun a o h => ?_) (fun a h => ?_) ⟨_, rfl, fun Gx ex => ⟨Dl, ts, rfl, ?_, ndp, ?_⟩⟩
    · try dsimp only at h
      split at h
      · exact h
      · cases h
    · try dsimp only at h
      split at h
      · rename_i c
        rcases List.mem_cons.mp c with c | c
        · subst c; exact ⟨g1.h.free hD, gd⟩
        · exact ⟨g1.h.free (nw a c).1, (nw a c).2⟩
      · exact absurd rfl h
    · exact (if_pos (by simp)).trans hd
    · exact r.mono ex fun t ht => if_pos (by simp [ht])
/-- a new own thing as data -/
theorem EvO.mixEv {P : Hp → Hp → V → Prop} (h : EvO E te δ (.ob P)) (rp : ∀ G F v, P G F v → (∀ a, F a ≠ none → G a = none) → Rp (jn G F) d v) : Ev E te δ d := fun σ G H Q s k => h σ G H Q s fun v F G2 H2 g i n hr => by
  obtain ⟨w, e, hr⟩ := hr
  cases e
  exact k v (jn G2 F) H2 (EvN.grow (σ := σ) g i n) (rp _ _ _ (hr G2 (Same.refl G2)) fun a ha => (n a ha).2)
theorem EvO.nestEv {xss : List (List D)} (h : EvO E te δ (nest xss)) : Ev E te δ (.list (xss.map .list)) := EvO.mixEv (P := NestP xss) h fun _ _ _ h off => nest_rp h off
/-- two own things handed over -/
theorem St.frame2 {P1 P2 : Hp → Hp → V → Prop} {v1 v2 : V} {as : List D} {us : List V} (s : St E δ σ G H) (hij : i ≠ j) (h1 : δ[i]? = some (.ob P1)) (o1 : σ[i]? = some (some v1)) (h2 : δ[j]? = some (.ob P2)) (o2 : σ[j]? = some (some v2)) (r : RpA G as us) :
    ∃ En : Ent, En.K = E.K ∧ St En (.ob P1 :: .ob P2 :: as.map .d) (some v1 :: some v2 :: us.map some) G H ∧ ∀ P1' P2' rr v3 G2 H2, rr.plain = true → Same G G2 → St En (.ob P1' :: .ob P2' :: (as.map fun _ => Sl.no) ++ [rr]) (some v1 :: some v2 :: us.map some ++ [some v3]) G2 H2 → St E ((δ.set i (.ob P1')).set j (.ob P2') ++ [rr]) (σ ++ [some v3]) G2 H2 := by
  obtain ⟨F, q⟩ := s.rg
  have lt1 : i < δ.length := (List.getElem?_eq_some_iff.mp h1).1
  have lt2 : j < δ.length := (List.getElem?_eq_some_iff.mp h2).1
  have keep : ∀ a o, H a = some o → F i a = none → F j a = none → out (F j) (out (F i) H) a = some o := fun a o e1 e2 e3 => by rw [out_none e3, out_none e2]; exact e1
  have free : ∀ a o, E.H a = some o → ∀ m, F m a = none := fun a o h m => by
    cases z : F m a with
    | none => rfl
    | some w => rw [(q.out m a (by rw [z]; simp)).2] at h; cases h
  have eE : ∀ a o, E.H a = some o → out (F j) (out (F i) H) a = some o := fun a o h => keep a o (s.h a o h) (free a o h i) (free a o h j)
  refine ⟨⟨E.K, G, out (F j) (out (F i) H)⟩, rfl, ⟨Same.refl G, out_in.trans out_in, fun _ _ h => h, s.i, by simp [r.len], fun m => if m = 0 then F i else if m = 1 then F j else none0, fun m => ?_, fun m a h => ?_, fun m k a ne h => ?_, fun m t o e1 e2 => ?_⟩, fun P1' P2' rr v3 G2 H2 hpl e s2 => ?_⟩
  · split
    · exact q.in_ i
    · split
      · exact q.in_ j
      · exact fun _ _ z => nomatch z
  · have inj : F j a ≠ none → out (F j) (out (F i) H) a = none := fun h => by
      unfold out
      cases z : F j a with
      | none => exact absurd z h
      | some w => rfl
    have ini : F i a ≠ none → out (F j) (out (F i) H) a = none := fun h => by
      rw [out_none (q.ap i j a hij h)]
      unfold out
      cases z : F i a with
      | none => exact absurd z h
      | some w => rfl
    split at h
    · exact ⟨(q.out i a h).1, ini h⟩
    · split at h
      · exact ⟨(q.out j a h).1, inj h⟩
      · exact absurd rfl h
  · by_cases e1 : m = 0
    · simp only [e1, if_true] at h
      have e2 : ¬ k = 0 := fun z => ne (e1.trans z.symm)
      simp only [e2, if_false]
      split
      · exact q.ap i j a hij h
      · rfl
    · simp only [e1, if_false] at h
      by_cases e3 : m = 1
      · simp only [e3, if_true] at h
        by_cases e2 : k = 0
        · simp only [e2, if_true]; exact q.ap j i a (Ne.symm hij) h
        · simp only [e2, if_false]
          rw [if_neg (fun z => ne (e3.trans z.symm))]
          rfl
      · simp only [e3, if_false] at h
        exact absurd rfl h
  · match m, e1, e2 with
    | 0, e1, e2 =>
      cases e1; cases e2
      exact q.sl i _ _ h1 o1
    | 1, e1, e2 =>
      cases e1; cases e2
      exact q.sl j _ _ h2 o2
    | m + 2, e1, e2 =>
      rw [List.getElem?_cons_succ, List.getElem?_cons_succ, List.getElem?_map, Option.map_eq_some_iff] at e1
      rw [List.getElem?_cons_succ, List.getElem?_cons_succ, List.getElem?_map, Option.map_eq_some_iff] at e2
      obtain ⟨x, hx, rfl⟩ := e1
      obtain ⟨w, hw, rfl⟩ := e2
      obtain ⟨w2, e3, e4⟩ := r.get hx
      rw [hw] at e3; cases e3
      exact ⟨w, rfl, e4⟩
  · obtain ⟨F2, q2⟩ := s2.rg
    have n0 : (Sl.ob P1' :: Sl.ob P2' :: as.map fun _ => Sl.no).length = as.length + 2 := by simp
    have lu : (some v1 :: some v2 :: us.map some).length = as.length + 2 := by simp [r.len]
    have k1 : ∀ m a, m ≠ i → m ≠ j → F m a ≠ none → out (F j) (out (F i) H) a ≠ none := fun m a n1 n2 h => by
      rw [out_none (q.ap m j a n2 h), out_none (q.ap m i a n1 h)]
      exact not_none (q.in_ m) h
    have hsl := s.len
    refine ⟨s.g.trans e, fun a o h => s2.h a o (eE a o h), fun a ha ga => s2.n a (not_none (fun a o h => eE a o h) ha) (s.n a ha ga), s2.i, by simp [hsl], fun m => if m = i then F2 0 else if m = j then F2 1 else if m = δ.length then F2 (as.length + 2) else F m, fun m => ?_, fun m a h => ?_, fun m k a ne h => ?_, fun m t o e1 e2 => ?_⟩
    · split
      · exact q2.in_ 0
      · split
        · exact q2.in_ 1
        · split
          · exact q2.in_ _
          · rename_i n1 n2 _
            intro a o h
            exact s2.h a o (keep a o (q.in_ m a o h) (q.ap m i a n1 (by rw [h]; simp)) (q.ap m j a n2 (by rw [h]; simp)))
    · have fromNew : ∀ m, F2 m a ≠ none → G2 a = none ∧ E.H a = none := fun m h => by
        have z := q2.out m a h
        refine ⟨z.1, ?_⟩
        cases w : E.H a with
        | none => rfl
        | some o =>
          have z2 : out (F j) (out (F i) H) a = none := z.2
          rw [eE a o w] at z2; cases z2
      split at h
      · exact fromNew _ h
      · split at h
        · exact fromNew _ h
        · split at h
          · exact fromNew _ h
          · rename_i n1 n2 _
            have z := q.out m a h
            exact ⟨s2.n a (k1 m a n1 n2 h) z.1, z.2⟩
    · -- which of the new regions a slot has
      have apart : ∀ m m2, m ≠ i → m ≠ j → F m a ≠ none → F2 m2 a = none := fun m m2 n1 n2 h => by
        cases w : F2 m2 a with
        | none => rfl
        | some o => exact absurd (q2.out m2 a (by rw [w]; simp)).2 (k1 m a n1 n2 h)
      have apart2 : ∀ m m2, m ≠ i → m ≠ j → F2 m2 a ≠ none → F m a = none := fun m m2 n1 n2 h => by
        cases w : F m a with
        | none => rfl
        | some o => exact absurd (apart m m2 n1 n2 (by rw [w]; simp)) h
      have code : ∀ m, (∃ c, (if m = i then F2 0 else if m = j then F2 1 else if m = δ.length then F2 (as.length + 2) else F m) = F2 c ∧ ((m = i ∧ c = 0) ∨ (m = j ∧ c = 1) ∨ (m = δ.length ∧ c = as.length + 2))) ∨ ((if m = i then F2 0 else if m = j then F2 1 else if m = δ.length then F2 (as.length + 2) else F m) = F m ∧ m ≠ i ∧ m ≠ j) := fun m => by
        by_cases c1 : m = i
        · exact .inl ⟨0, by simp [c1], .inl ⟨c1, rfl⟩⟩
        · by_cases c2 : m = j
          · exact .inl ⟨1, by simp [c2, Ne.symm hij], .inr (.inl ⟨c2, rfl⟩)⟩
          · by_cases c3 : m = δ.length
            · refine .inl ⟨as.length + 2, ?_, .inr (.inr ⟨c3, rfl⟩)⟩
              rw [if_neg c1, if_neg c2, if_pos c3]
            · exact .inr ⟨by rw [if_neg c1, if_neg c2, if_neg c3], c1, c2⟩
      rcases code m with ⟨c, ec, hc⟩ | ⟨ec, n1, n2⟩ <;> rcases code k with ⟨c', ec', hc'⟩ | ⟨ec', n1', n2'⟩
      · rw [ec] at h
        rw [ec']
        exact q2.ap c c' a (by
          rcases hc with ⟨x, y⟩ | ⟨x, y⟩ | ⟨x, y⟩ <;> rcases hc' with ⟨x', y'⟩ | ⟨x', y'⟩ | ⟨x', y'⟩ <;> first
            | exact absurd (x.trans x'.symm) ne
            | omega) h
      · rw [ec] at h
        rw [ec']
        exact apart2 k c n1' n2' h
      · rw [ec] at h
        rw [ec']
        exact apart m c' n1 n2 h
      · rw [ec] at h
        rw [ec']
        exact q.ap m k a ne h
    · have hlen : ((δ.set i (.ob P1')).set j (.ob P2')).length = δ.length := by simp
      by_cases c1 : m = i
      · subst c1
        simp only [if_true]
        have e3 : t = .ob P1' := by
          rw [List.getElem?_append_left (by rw [hlen]; exact lt1), List.getElem?_set_ne (Ne.symm hij)] at e1
          simpa [lt1] using e1.symm
        have e4 : o = some v1 := by
          rw [List.getElem?_append_left (by rw [hsl]; exact lt1), o1] at e2
          exact (Option.some.inj e2).symm
        subst e3 e4
        obtain ⟨w, e5, hw⟩ := q2.sl 0 (.ob P1') (some v1) rfl rfl
        exact ⟨w, e5, hw⟩
      · by_cases c2 : m = j
        · subst c2
          simp only [c1, if_false, if_true]
          have e3 : t = .ob P2' := by
            rw [List.getElem?_append_left (by rw [hlen]; exact lt2)] at e1
            simpa [lt2] using e1.symm
          have e4 : o = some v2 := by
            rw [List.getElem?_append_left (by rw [hsl]; exact lt2), o2] at e2
            exact (Option.some.inj e2).symm
          subst e3 e4
          obtain ⟨w, e5, hw⟩ := q2.sl 1 (.ob P2') (some v2) rfl rfl
          exact ⟨w, e5, hw⟩
        · by_cases c3 : m = δ.length
          · subst c3
            simp only [c1, c2, if_false, if_true]
            have e3 : t = rr := by
              rw [← hlen] at e1
              simpa using e1.symm
            have e4 : o = some v3 := by rw [← hsl] at e2; simpa using e2.symm
            subst e3 e4
            exact SlR.ent hpl (q2.sl (as.length + 2) t (some v3) (by rw [← n0]; simp) (by rw [← lu]; simp))
          · simp only [c1, c2, c3, if_false]
            have lj : m < δ.length := by
              have := (List.getElem?_eq_some_iff.mp e1).1
              simp at this
              omega
            rw [List.getElem?_append_left (by rw [hlen]; exact lj), List.getElem?_set_ne (Ne.symm c2), List.getElem?_set_ne (Ne.symm c1)] at e1
            rw [List.getElem?_append_left (by rw [hsl]; exact lj)] at e2
            exact (q.sl m t o e1 e2).mono e
theorem evR_callM2 {R : List Sl → List Sl → Sl → Prop} {t : TA} {XE : XK} {P1 P2 P1' P2' : Hp → Hp → V → Prop} (hij : i ≠ j) (h1 : δ[i]? = some (.ob P1)) (h2 : δ[j]? = some (.ob P2)) (h : Ed E t δ ds) (hR : R (.ob P1 :: .ob P2 :: ds.map .d) (.ob P1' :: .ob P2' :: ds.map fun _ => .no) r) (hp : r.plain = true) :
    EvR E (tCall (spM E.K R) [] XE (tCons (tVar i) (tCons (tVar j) t))) δ ((δ.set i (.ob P1')).set j (.ob P2')) r := fun σ G H Q s k => by
  obtain ⟨o, ho⟩ := s.here h1
  obtain ⟨o', ho'⟩ := s.here h2
  obtain ⟨F, q⟩ := s.rg
  obtain ⟨v, e, hs⟩ := q.sl i _ o h1 ho
  obtain ⟨v', e', hs'⟩ := q.sl j _ o' h2 ho'
  subst e e'
  refine ⟨v, ho, v', ho', h σ G H _ s fun us G1 H1 g1 r1 => ?_⟩
  show spM E.K R ((v :: v' :: us) ++ []) H1 Q XE
  rw [List.append_nil]
  obtain ⟨En, hK, s1, back⟩ := (s.grow g1).frame2 hij h1 ho h2 ho' r1
  exact ⟨En, G1, _, _, r, hK, s1, hR, fun v3 G2 H2 e2 s2 => k v3 G2 H2 (g1.g.trans e2) (back P1' P2' r v3 G2 H2 hp e2 s2)⟩
end
/-! ### methods by their promises -/
structure ClM (P : Program) (w : World) (K : PySem.W.Frag) (mg : Str → Option Value) (base : Heap) (k : Nat) (C : Addr) (m : Str) (sp : Sp) : Prop where
  ex : ∃ (f : Addr) (fd : FuncData) (ps : List Str), FnOk P w K mg base CX0 k f fd ps sp ∧ Meth K C m f ∧ Binds K fd ps []
structure ClI (P : Program) (w : World) (K : PySem.W.Frag) (mg : Str → Option Value) (base : Heap) (k : Nat) (C : Addr) (sp : Sp) : Prop where
  ex : ∃ (f : Addr) (fd : FuncData) (ps : List Str), FnOk P w K mg base CX0 k f fd ps sp ∧ Mk K C f ∧ Binds K fd ps []
section
variable {X : Cx} {k j : Nat} {sp : Sp} {C : Addr} {x m : Str} {p pos apos : Pos} {o e : Expr} {es : List Expr} {ta : TE} {t : TA}
theorem pe_clm {pl : Sem Bool} (c : ClM X.prog X.w X.K X.mg X.base k C m sp) (cl : Cls X.K C) (hr : Room j X.A) (hk : k ≤ j) (he : PE X o ta) (ha : PA X (e :: es) t)
    (hst : starEach (e :: es) X.env = (false, eval e X.env) :: starEach es X.env := by rfl) (hpl : (backTo pos (starEach es X.env)).any (·.1) = false := by rfl)
    (ht : eval (.Call (.Attribute o m apos) (e :: es) [] pos) X.env = (do
      let ov ← eval o X.env
      standAt apos.atName
      let (f, first) ← holding [ov] (getMethod ov m pl)
      callWith pos f first (backTo pos (starEach (e :: es) X.env)) (backToKw pos (keywordEach [] X.env))) := by rfl) : PE X (.Call (.Attribute o m apos) (e :: es) [] pos) (tMeth C m sp [] E0 ta t) := by
  obtain ⟨f, fd, ps, F, hm, b⟩ := c.ex
  exact pe_meth he cl hm F (hr.mono hk) b .nil pass0 ha hst hpl ht
theorem pe_clm0 {pl : Sem Bool} (c : ClM X.prog X.w X.K X.mg X.base k C m sp) (cl : Cls X.K C) (hr : Room j X.A) (hk : k ≤ j) (he : PE X o ta)
    (ht : eval (.Call (.Attribute o m apos) [] [] pos) X.env = (do
      let ov ← eval o X.env
      standAt apos.atName
      let (f, first) ← holding [ov] (getMethod ov m pl)
      callWith pos f first (backTo pos (starEach [] X.env)) (backToKw pos (keywordEach [] X.env))) := by rfl) : PE X (.Call (.Attribute o m apos) [] [] pos) (tMeth C m sp [] E0 ta tNil) := by
  obtain ⟨f, fd, ps, F, hm, b⟩ := c.ex
  exact pe_meth0 he cl hm F (hr.mono hk) b .nil pass0 ht
theorem pe_cli0 (c : ClI X.prog X.w X.K X.mg X.base k C sp) (hr : Room j X.A) (hk : k + 1 ≤ j) (hg : Gl X x) (hm : X.mg x = some (.ref C)) (hdb : (x == ("__debug__" : Str)) = false := by decide) : PE X (.Call (.Name x p) [] [] pos) (tMake C sp [] E0 tNil) := by
  obtain ⟨f, fd, ps, F, M, b⟩ := c.ex
  exact pe_make0 M F (hr.mono hk) hg hm b .nil pass0 hdb
end
section
variable {P : Program} {w : World} {K : PySem.W.Frag} {mg : Str → Option Value} {base : Heap}
/-- a method of the row -/
structure FdM (K : PySem.W.Frag) (C : Addr) (m qual : Str) (st : Stmt) : Prop where
  ex : ∃ (f : Addr) (fd : FuncData), Fun K m qual st f fd ∧ PySem.W.findIn K (.ref C) m = some (some (.ref f)) ∧ PySem.W.isFn K (.ref f) = true ∧ PySem.W.keepIn K (.ref f) = true
theorem fdM_mk {C : Addr} {x qual : Str} {st : Stmt} {f : Addr} {oc : Value} {od an : Option Addr} {osl : Array (Option Value)} {kV doc pm cdv ct : Value} (a : PySem.W.findIn K (.ref C) x = some (some (.ref f))) (i : PySem.W.isFn K (.ref f) = true)
    (l : K.lookup f = some ⟨oc, od, .func (PySem.W.fnOf x qual (defArgs st) (defBody st) (defScope st) .none kV doc pm an cdv ct), osl⟩) (c : PySem.W.codeIn K cdv qual = true) (kp : PySem.W.keepIn K (.ref f) = true) : FdM K C x qual st := ⟨f, _, fun_mk l c kp, a, i, kp⟩
theorem clm_of {C : Addr} {x qual : Str} {st : Stmt} {N ps : List Str} {k : Nat} {sp : Sp} (F : FdM K C x qual st) (S : FnScope N ps (defScope st)) (len : ∀ vs H Q E, sp vs H Q E → vs.length = ps.length)
    (hb : ∀ (kV doc pm : Value) (an : Option Addr) (cdv ct : Value) (us : List Value), us.length = ps.length → bindArgs (PySem.W.fnOf x qual (defArgs st) (defBody st) (defScope st) .none kV doc pm an cdv ct) ⟨us, []⟩ = pure (ps.zip us))
    (hbody : ∀ (f : Addr) (cdv : Value) (A : Around) (outer : List Env) (s : Shared) (H : Hp) (vs : List V) (Q : VK) (E : XK), Room k (A.deeper (envOfC qual (defScope st) s.heap.objs.size f cdv)) → sp vs H Q E →
      ∃ t, PSs (cxOf CX0 P w K mg base N qual (defScope st) f cdv A outer s H E).nox (defBody st) t ∧ t { nx := fun _ H' => Q .non H', rt := Q } (start N vs) H) : ClM P w K mg base (k + 1) C x sp := by
  obtain ⟨f, fd, fn, m, i, kp⟩ := F.ex
  exact ⟨f, fd, ps, fn.ok S len fun cdv A outer s H vs Q E hr hs => hbody f cdv A outer s H vs Q E hr hs, ⟨m, i, kp⟩, fn.binds hb⟩
theorem cli_of {C : Addr} {qual : Str} {st : Stmt} {N ps : List Str} {k : Nat} {sp : Sp} (F : FdM K C "__init__" qual st) (mk : PySem.W.makesIn K C = true) (kc : PySem.W.keepIn K (.ref C) = true) (S : FnScope N ps (defScope st)) (len : ∀ vs H Q E, sp vs H Q E → vs.length = ps.length)
    (hb : ∀ (kV doc pm : Value) (an : Option Addr) (cdv ct : Value) (us : List Value), us.length = ps.length → bindArgs (PySem.W.fnOf "__init__" qual (defArgs st) (defBody st) (defScope st) .none kV doc pm an cdv ct) ⟨us, []⟩ = pure (ps.zip us))
    (hbody : ∀ (f : Addr) (cdv : Value) (A : Around) (outer : List Env) (s : Shared) (H : Hp) (vs : List V) (Q : VK) (E : XK), Room k (A.deeper (envOfC qual (defScope st) s.heap.objs.size f cdv)) → sp vs H Q E →
      ∃ t, PSs (cxOf CX0 P w K mg base N qual (defScope st) f cdv A outer s H E).nox (defBody st) t ∧ t { nx := fun _ H' => Q .non H', rt := Q } (start N vs) H) : ClI P w K mg base (k + 1) C sp := by
  obtain ⟨f, fd, fn, m, i, kp⟩ := F.ex
  exact ⟨f, fd, ps, fn.ok S len fun cdv A outer s H vs Q E hr hs => hbody f cdv A outer s H vs Q E hr hs, ⟨mk, m, i, kc⟩, fn.binds hb⟩
end
theorem back_of {p : Addr} {P P' : Hp → Hp → V → Prop} (h1 : PinS p P) (h2 : PinS p P') {l nos : List Sl} (hl : nos.length = l.length) (hn : ∀ t ∈ nos, t = Sl.no) : Back (.ob P :: l) (.ob P' :: nos) := ⟨by simp [hl], fun k t h => by
  cases k with
  | zero => cases h; exact .inr ⟨P, P', p, rfl, rfl, h1, h2⟩
  | succ k => exact .inl (hn t (List.mem_of_getElem? (by simpa using h)))⟩
section
variable {E : Ent} {ts : TS} {r : Sl} {δ : List Sl}
theorem St.weaken {δ δ2 : List Sl} {σ : L2.St} {G H : Hp} (s : St E δ σ G H) (hl : δ2.length = δ.length) (h : ∀ (k : Nat) (t : Sl), δ2[k]? = some t → t = Sl.no ∨ δ[k]? = some t) : St E δ2 σ G H := by
  obtain ⟨F, q⟩ := s.rg
  refine ⟨s.g, s.h, s.n, s.i, by rw [s.len, hl], F, q.in_, q.out, q.ap, fun j t o h1 h2 => ?_⟩
  rcases h j t h1 with e | e
  · subst e; trivial
  · exact q.sl j t o e h2
/-- what is given back, the other slots forgotten -/
theorem xs_toM {pre nos : List Sl} (hn : ∀ t ∈ nos, t = Sl.no) (h : Xs E ts δ fun o => ∃ l, nos.length ≤ l.length ∧ (o = .rm (pre ++ l) r ∨ (r = .d .none ∧ o = .nx (pre ++ l)))) :
    Xs E ts δ fun o => (∃ rest, o = .rm ((pre ++ nos) ++ rest) r) ∨ (r = .d .none ∧ ∃ rest, o = .nx ((pre ++ nos) ++ rest)) := fun σ G H X s pq => by
  have wk : ∀ (l ε : List Sl), nos.length ≤ l.length → ∀ (k : Nat) (t : Sl), ((pre ++ nos) ++ l.drop nos.length ++ ε)[k]? = some t → t = Sl.no ∨ (pre ++ l ++ ε)[k]? = some t := fun l ε hl k t ht => by
    by_cases c1 : k < pre.length
    · rw [List.append_assoc, List.append_assoc, List.getElem?_append_left c1] at ht
      exact .inr (by rw [List.append_assoc, List.getElem?_append_left c1]; exact ht)
    · by_cases c2 : k < pre.length + nos.length
      · rw [List.append_assoc, List.append_assoc, List.getElem?_append_right (by omega), List.getElem?_append_left (by omega)] at ht
        exact .inl (hn t (List.mem_of_getElem? ht))
      · refine .inr ?_
        have e : pre ++ l ++ ε = (pre ++ l.take nos.length) ++ (l.drop nos.length ++ ε) := by
          rw [List.append_assoc, List.append_assoc, ← List.append_assoc (l.take nos.length), List.take_append_drop]
        have ht' : (l.drop nos.length ++ ε)[k - (pre.length + nos.length)]? = some t := by
          rw [List.append_assoc (pre ++ nos), List.getElem?_append_right (by simp; omega)] at ht
          simpa using ht
        rw [e, List.getElem?_append_right (by rw [List.length_append, List.length_take]; omega)]
        have e2 : (pre ++ l.take nos.length).length = pre.length + nos.length := by rw [List.length_append, List.length_take]; omega
        rw [e2]
        exact ht'
  have ln : ∀ (l ε : List Sl), nos.length ≤ l.length → ((pre ++ nos) ++ l.drop nos.length ++ ε).length = (pre ++ l ++ ε).length := fun l ε hl => by simp; omega
  refine h σ G H X s fun o ⟨l, hl, ho⟩ => ?_
  rcases ho with rfl | ⟨hr, rfl⟩
  · intro v σ' G' H' e s'
    exact pq _ (.inl ⟨l.drop nos.length, rfl⟩) v σ' G' H' e (s'.weaken (ln l [r] hl) (wk l [r] hl))
  · intro σ' G' H' e s'
    have a := ln l [] hl
    have b := wk l [] hl
    rw [List.append_nil, List.append_nil] at a b
    exact pq _ (.inr ⟨hr, l.drop nos.length, rfl⟩) σ' G' H' e (s'.weaken a b)
end
theorem no1 : ∀ t ∈ [Sl.no], t = Sl.no := fun t h => by simpa using h
theorem no3 : ∀ t ∈ [Sl.no, .no, .no], t = Sl.no := fun t h => by simpa using h
end PL

/-! PRoad: new instances made with what they are handed, a method of one; the roads: an instance with a list of roads, an own list of truths, an own dict of own lists. -/
namespace PL
open PySem PySem.Spec PyProof.Rows L2
section
variable {E : Ent} {δ δ' : List Sl} {σ : L2.St} {G H G2 H2 : Hp} {te ta tb tc : TE} {d : D} {r : Sl} {Φ : Out → Prop} {t : TA} {ds : List D} {i j : Nat} {u : TS} {XE : XK} {C : Addr}
/-- an instance as it is made -/
def insB (C p : Addr) : Hp → Hp → V → Prop := fun _ F v => v = .ref p ∧ ∃ dx, F p = some (.ins C dx [])
theorem insB_pin {C p : Addr} : PinS p (insB C p) := fun _ _ _ h => h.1
theorem args_sl {K : PySem.W.Frag} {G : Hp} {H0 F : Hp} {P : Hp → Hp → V → Prop} {v : V} {us : List V} (r : RpA G ds us) (hP : ∀ G', Same G G' → P G' F v) : ∀ (j : Nat) (s : Sl) (o : Option V), (Sl.ob P :: ds.map .d)[j]? = some s → (some v :: us.map some)[j]? = some o → SlR ⟨K, G, H0⟩ G (if j = 0 then F else none0) s o := fun j s o h1 h2 => by
  cases j with
  | zero => cases h1; cases h2; exact ⟨v, rfl, hP⟩
  | succ j =>
    rw [List.getElem?_cons_succ, List.getElem?_map, Option.map_eq_some_iff] at h1
    rw [List.getElem?_cons_succ, List.getElem?_map, Option.map_eq_some_iff] at h2
    obtain ⟨x, hx, rfl⟩ := h1
    obtain ⟨w, hw, rfl⟩ := h2
    obtain ⟨w2, e1, e2⟩ := r.get hx
    rw [hw] at e1; cases e1
    exact ⟨w, rfl, e2⟩
theorem evO_make {Ri : List Sl → List Sl → Sl → Prop} {P : Addr → Hp → Hp → V → Prop} (h : Ed E t δ ds) (hR : ∀ p, Ri (.ob (insB C p) :: ds.map .d) (.ob (P p) :: ds.map fun _ => .no) (.d .none)) :
    EvO E (tMake C (spM E.K Ri) [] XE t) δ (.ob fun G F v => ∃ p, v = .ref p ∧ P p G F v) := fun σ G H Q s k => h σ G H _ s fun us G1 H1 g1 r1 => by
  intro x dx hx hdx ne
  rw [List.append_nil]
  have sm : Same H1 (upd (upd H1 dx (.own x)) x (.ins C dx [])) := fun b o hb => by
    rw [upd_ne (ne_of_none hb hx), upd_ne (ne_of_none hb hdx)]; exact hb
  have gx : G1 x = none := g1.i.free hx
  refine ⟨⟨E.K, G1, H1⟩, G1, .ob (insB C x) :: ds.map .d, _, _, rfl, ⟨Same.refl G1, sm, fun _ _ z => z, g1.i.trans sm, by simp [r1.len], fun j => if j = 0 then sing x (.ins C dx []) else none0, fun j => ?_, fun j a h => ?_, fun j k a ne h => ?_, args_sl r1 fun G' _ => ⟨rfl, dx, sing_self⟩⟩, hR x, fun v G2 H3 e s2 => ?_⟩
  · split
    · exact sing_in upd_same
    · exact fun _ _ z => nomatch z
  · split at h
    · rw [sing_ne h]; exact ⟨gx, hx⟩
    · exact absurd rfl h
  · split at h
    · rename_i e1
      rw [if_neg (fun z => ne (e1.trans z.symm))]; rfl
    · exact absurd rfl h
  · obtain ⟨_, _, _, w, e0, hw⟩ := s2.last
    cases e0
    have hw : v = .non := hw
    subst hw
    obtain ⟨F2, q2⟩ := s2.rg
    obtain ⟨w, e1, hP⟩ := q2.sl 0 (.ob (P x)) (some (.ref x)) rfl rfl
    cases e1
    have s2h : Same H1 H3 := s2.h
    have s2n : ∀ a, H1 a ≠ none → G1 a = none → G2 a = none := s2.n
    refine ⟨rfl, k (.ref x) (F2 0) G2 H3 ⟨g1.g.trans e, g1.h.trans s2h, fun a ha ga => s2n a (not_none g1.h ha) (g1.n a ha ga), s2.i⟩ (q2.in_ 0) (fun a ha => ⟨g1.h.free (q2.out 0 a ha).2, (q2.out 0 a ha).1⟩) ⟨_, rfl, fun G' e' => ⟨x, rfl, hP G' e'⟩⟩⟩
theorem evO_methN {m : Str} {R : List Sl → List Sl → Sl → Prop} {P : Addr → Hp → Hp → V → Prop} (he : EvO E te δ (.ob fun G F v => ∃ p, v = .ref p ∧ P p G F v)) (ins : ∀ p G F, P p G F (.ref p) → ∃ dx fs, F p = some (.ins C dx fs) ∧ fs.lookup m = none)
    (h : Ed E t δ ds) (hR : ∀ p, R (.ob (P p) :: ds.map .d) (.no :: ds.map fun _ => .no) r) (hp : r.plain = true) : EvO E (tMeth C m (spM E.K R) [] XE te t) δ r := fun σ G H Q s k => he σ G H _ s fun v F G1 H1 g1 i1 n1 hr => by
  obtain ⟨w, e, hw⟩ := hr
  cases e
  obtain ⟨p, ep, hP⟩ := hw G1 (Same.refl G1)
  subst ep
  obtain ⟨dx, fs, h1, h2⟩ := ins p _ _ hP
  refine ⟨p, dx, fs, rfl, i1 _ _ h1, h2, h σ G1 H1 _ (s.grow g1) fun us G2 H2 g2 r2 => ?_⟩
  rw [List.append_nil]
  have g := g1.trans g2
  refine ⟨⟨E.K, G2, H⟩, G2, .ob (P p) :: ds.map .d, _, r, rfl, ⟨Same.refl G2, g.h, fun _ _ z => z, g.i, by simp [r2.len], fun j => if j = 0 then F else none0, fun j => ?_, fun j a h => ?_, fun j k a ne h => ?_, args_sl r2 fun G' e' => ?_⟩, hR p, fun v3 G3 H3 e3 s3 => ?_⟩
  · split
    · exact i1.trans g2.h
    · exact fun _ _ z => nomatch z
  · split at h
    · exact ⟨g2.n a (not_none i1 h) (n1 a h).2, (n1 a h).1⟩
    · exact absurd rfl h
  · split at h
    · rename_i e1
      rw [if_neg (fun z => ne (e1.trans z.symm))]; rfl
    · exact absurd rfl h
  · obtain ⟨p', ep, hP'⟩ := hw G' (g2.g.trans e')
    cases ep
    exact hP'
  · obtain ⟨F3, f1, f2, f3⟩ := s3.last
    have s3h : Same H H3 := s3.h
    have s3n : ∀ a, H a ≠ none → G2 a = none → G3 a = none := s3.n
    exact k v3 F3 G3 H3 ⟨g.g.trans e3, s3h, fun a ha ga => s3n a ha (g.n a ha ga), s3.i⟩ f1 (fun a ha => ⟨(f2 a ha).2, (f2 a ha).1⟩) (f3.ent hp)
/-- what is known of a slot's thing is told otherwise -/
theorem St.know {P' : Hp → Hp → V → Prop} {v : V} {F : Nat → Hp} (s : St E δ σ G H) (q : Reg E δ σ G H F) (ho : σ[i]? = some (some v)) (r : ∀ G', Same G G' → P' G' (F i) v) : St E (δ.set i (.ob P')) σ G H := by
  refine ⟨s.g, s.h, s.n, s.i, by simp [s.len], F, q.in_, q.out, q.ap, fun j t o q1 q2 => ?_⟩
  by_cases e : j = i
  · subst e
    rw [List.getElem?_set] at q1
    simp only [if_true] at q1
    split at q1
    · cases q1
      rw [ho] at q2; cases q2
      exact ⟨v, rfl, r⟩
    · cases q1
  · rw [List.getElem?_set_ne (Ne.symm e)] at q1
    exact q.sl j t o q1 q2
/-- t[1:] of a tuple -/
theorem slA_tail {K : PySem.W.Frag} {xs : List D} {x : D} {v : V} {Q : VK} (i : Same G H) (r : Rp G (.tuple (x :: xs)) v) (k : ∀ v G2 H2, Gr G H G2 H2 → Rp G2 (.tuple xs) v → Q v H2) : rSlA K v (some 1) none H Q := by
  obtain ⟨a, vs, e, h1, y, ws, e2, ry, rs⟩ := r
  subst e e2
  refine ⟨a, y :: ws, rfl, sqT_of i h1, fun z => ?_, fun _ p hp => ?_⟩
  · have : HT.sIx (y :: ws).length 0 (some 1) = 1 := by
      have := sIx_nat (y :: ws).length 0 1
      rw [show ((1 : Nat) : Int) = 1 from rfl] at this
      rw [this, List.length_cons]; omega
    rw [this] at z
    exact absurd z.1 (by decide)
  · have e3 : cutV (y :: ws) (some 1) none = ws := by
      have := cut_from (y :: ws) 1
      exact this
    rw [e3]
    have gr : Gr G H (upd G p (.tup ws)) (upd H p (.tup ws)) := Gr.new i hp
    exact k _ _ _ gr ⟨p, ws, rfl, upd_same, RpA.mono gr.g _ _ rs⟩
theorem ev_slA1 {xs : List D} {x : D} (ha : Ev E ta δ (.tuple (x :: xs))) : Ev E (tSl (rSlA E.K) ta (tPart (tC (.int 1))) tNoPart) δ (.tuple xs) := fun σ G H Q s k => ha σ G H _ s fun v G1 H1 g1 r1 =>
  ⟨1, rfl, slA_tail g1.i r1 fun v2 G2 H2 g2 r2 => k v2 G2 H2 (g1.trans g2) r2⟩
theorem evM_slA1 {xs : List D} {x : D} (ha : EvM E ta δ δ' (.tuple (x :: xs))) : EvM E (tSl (rSlA E.K) ta (tPart (tC (.int 1))) tNoPart) δ δ' (.tuple xs) := fun σ G H Q s k => ha σ G H _ s fun v G1 H1 e1 s1 r1 =>
  ⟨1, rfl, slA_tail s1.i r1 fun v2 G2 H2 g2 r2 => k v2 G2 H2 (e1.trans g2.g) (s1.grow g2) r2⟩
/-- xs.append(e), e changing other own things -/
theorem evM_appendM {n : Nat} {xs : List D} (h0 : δ'[n]? = some (.ow xs)) (hn : δ[n]? = some (.ow xs)) (ha : EvM E ta δ δ' d) (hz : xs.length < 100000) : EvM E (tBM E.K "list" rAppend (tVar n) (tCons ta tNil)) δ (δ'.set n (.ow (xs ++ [d]))) .none := fun σ G H Q s k => by
  obtain ⟨p, vs, ho, h1, h2, h3, h4⟩ := s.atOw hn
  refine ⟨.ref p, ho, .inl ⟨rfl, _, SqL.of h1⟩, ha σ G H _ s fun v G2 H2 g s2 r => ?_⟩
  obtain ⟨p', vs', ho', h1', h2', h3', h4'⟩ := s2.atOw h0
  rw [ho] at ho'
  cases ho'
  refine ⟨p, vs', v, rfl, rfl, h1', by rw [h2'.len]; exact Nat.lt_of_lt_of_le hz (by decide), k _ G2 _ g (s2.mutate h0 ho (h2'.snoc r)) rfl⟩
/-- != [] of a borrowed list -/
theorem ev_neB0 {xs : List D} (ha : EvB E ta δ xs) (hs : SeqAt.shaped (.list xs) = true) : Ev E (tOp (rNeD E.K) ta (tLst tNil)) δ (.bool (!decide (xs = []))) := fun σ G H Q s k => ha σ G H _ s fun a vs G1 H1 g1 h1 r1 => ev_lst (E := E) (ds := []) ed_nil (by decide) σ G1 H1 _ (s.grow g1) fun w G2 H2 g2 r2 => by
  have rA : Rp H2 (.list xs) (.ref a) := ⟨a, vs, rfl, g2.h _ _ h1, RpA.mono (g2.g.trans g2.i) _ _ r1⟩
  have e : decide (xs = []) = PyData.eqv (.list xs) (.list []) := by
    cases xs <;> simp [PyData.eqv, PyData.eqvAll]
  rw [e] at k
  exact ⟨.list xs, .list [], dp_of (Same.refl H2) _ _ (shp_lay hs) rA, dp_of (Same.refl H2) _ _ (shp_lay shp_nil) (Rp.mono g2.i _ _ r2), hs, shp_nil, k _ G2 H2 (g1.trans g2) rfl⟩
end
theorem RpA.bools {G : Hp} : ∀ (bs : List Bool), RpA G (bs.map PyData.bool) (bs.map V.bl)
  | [] => rfl
  | b :: bs => ⟨_, _, rfl, rfl, RpA.bools bs⟩

theorem back_no {l nos : List Sl} (hl : nos.length = l.length) (hn : ∀ t ∈ nos, t = Sl.no) : Back l nos := ⟨hl, fun k t h => .inl (hn t (List.mem_of_getElem? h))⟩
section
variable {X : Cx} {k j : Nat} {sp : Sp} {C : Addr} {x : Str} {p pos : Pos} {e : Expr} {es : List Expr} {t : TA}
theorem pe_cli (c : ClI X.prog X.w X.K X.mg X.base k C sp) (hr : Room j X.A) (hk : k + 1 ≤ j) (hg : Gl X x) (hm : X.mg x = some (.ref C)) (ha : PA X (e :: es) t) (hdb : (x == ("__debug__" : Str)) = false := by decide)
    (he : starEach (e :: es) X.env = (false, eval e X.env) :: starEach es X.env := by rfl) (hpl : (backTo pos (starEach es X.env)).any (·.1) = false := by rfl) : PE X (.Call (.Name x p) (e :: es) [] pos) (tMake C sp [] E0 t) := by
  obtain ⟨f, fd, ps, F, M, b⟩ := c.ex
  exact pe_make M F (hr.mono hk) hg hm b .nil pass0 ha hdb he hpl
end

/-! ### the roads -/
def rfs (q g w : Addr) : List (Str × V) := [("roads", .ref q), ("gone", .ref g), ("waiting", .ref w)]
theorem rfs_q (q g w : Addr) : (rfs q g w).lookup ("roads" : Str) = some (.ref q) := lk_one
theorem rfs_g (q g w : Addr) : (rfs q g w).lookup ("gone" : Str) = some (.ref g) := (lk_ne (by decide +kernel)).trans lk_one
theorem rfs_w (q g w : Addr) : (rfs q g w).lookup ("waiting" : Str) = some (.ref w) := (lk_ne (by decide +kernel)).trans ((lk_ne (by decide +kernel)).trans lk_one)
theorem rfs_no (q g w : Addr) {m : Str} (h1 : ¬ m = "roads") (h2 : ¬ m = "gone") (h3 : ¬ m = "waiting") : (rfs q g w).lookup m = none := (lk_ne h1).trans ((lk_ne h2).trans ((lk_ne h3).trans rfl))
/-- what the top has made of the class -/
structure RoadT (K : PySem.W.Frag) (mg : Str → Option Value) (cR : Addr) : Prop where
  cl : Cls K cR
  nr : NoAttr K cR "roads"
  ng : NoAttr K cR "gone"
  nw : NoAttr K cR "waiting"
  mg : mg "Roads" = some (.ref cR)
structure RoadF (C p : Addr) (R : List D) (go : List Bool) (f : Int → Option (List Int)) (m : Nat) (G F : Hp) (q g w : Addr) (ks : List (Key × V)) (tf : Int → Option Addr) : Prop where
  ob : ∃ dx, F p = some (.ins C dx (rfs q g w))
  rq : Rp G (.list R) (.ref q)
  hg : F g = some (.lst (go.map V.bl))
  hw : F w = some (.dK ks)
  kl : ks.length ≤ m
  kt : ∀ n, valV ks (.inl n) = (tf n).map V.ref
  tn : ∀ n, (tf n).isSome = (f n).isSome
  ti : ∀ n t, tf n = some t → ∃ l, f n = some l ∧ F t = some (.lst (l.map V.int))
  ta : ∀ n t, tf n = some t → t ≠ p ∧ t ≠ g ∧ t ≠ w
  inj : ∀ n k t, tf n = some t → tf k = some t → n = k
  ne : p ≠ g ∧ p ≠ w ∧ g ≠ w
/-- roads at p, X of where the lists stand -/
def roadX (C p : Addr) (R : List D) (go : List Bool) (f : Int → Option (List Int)) (m : Nat) (X : (Int → Option Addr) → Prop) : Hp → Hp → V → Prop := fun G F v => v = .ref p ∧ ∃ q g w ks tf, RoadF C p R go f m G F q g w ks tf ∧ X tf
def roadB (C p : Addr) (R : List D) (go : List Bool) (f : Int → Option (List Int)) (m : Nat) : Hp → Hp → V → Prop := roadX C p R go f m fun _ => True
def setW (f : Int → Option (List Int)) (n : Int) (l : List Int) : Int → Option (List Int) := fun k => if k = n then some l else f k
theorem road_pin {C p : Addr} {R : List D} {go : List Bool} {f : Int → Option (List Int)} {m : Nat} {X : (Int → Option Addr) → Prop} : PinS p (roadX C p R go f m X) := fun _ _ _ h => h.1
theorem RoadF.g2 {C p : Addr} {R : List D} {go : List Bool} {f : Int → Option (List Int)} {m : Nat} {G G2 F : Hp} {q g w : Addr} {ks : List (Key × V)} {tf : Int → Option Addr} (t : RoadF C p R go f m G F q g w ks tf) (e : Same G G2) : RoadF C p R go f m G2 F q g w ks tf :=
  ⟨t.ob, Rp.mono e _ _ t.rq, t.hg, t.hw, t.kl, t.kt, t.tn, t.ti, t.ta, t.inj, t.ne⟩
theorem RoadF.setG {C p : Addr} {R : List D} {go go' : List Bool} {f : Int → Option (List Int)} {m : Nat} {G F : Hp} {q g w : Addr} {ks : List (Key × V)} {tf : Int → Option Addr} (t : RoadF C p R go f m G F q g w ks tf) : RoadF C p R go' f m G (upd F g (.lst (go'.map V.bl))) q g w ks tf :=
  ⟨t.ob.imp fun dx h => by rw [upd_ne t.ne.1]; exact h, t.rq, upd_same, by rw [upd_ne (Ne.symm t.ne.2.2)]; exact t.hw, t.kl, t.kt, t.tn, fun n a h => by
    obtain ⟨l, h1, h2⟩ := t.ti n a h
    exact ⟨l, h1, by rw [upd_ne (t.ta n a h).2.1]; exact h2⟩, t.ta, t.inj, t.ne⟩
theorem RoadF.setT {C p : Addr} {R : List D} {go : List Bool} {f : Int → Option (List Int)} {m : Nat} {G F : Hp} {q g w : Addr} {ks : List (Key × V)} {tf : Int → Option Addr} (t : RoadF C p R go f m G F q g w ks tf) {n : Int} {a : Addr} (h : tf n = some a) (l : List Int) :
    RoadF C p R go (setW f n l) m G (upd F a (.lst (l.map V.int))) q g w ks tf := by
  obtain ⟨n1, n2, n3⟩ := t.ta n a h
  refine ⟨t.ob.imp fun dx z => by rw [upd_ne (Ne.symm n1)]; exact z, t.rq, by rw [upd_ne (Ne.symm n2)]; exact t.hg, by rw [upd_ne (Ne.symm n3)]; exact t.hw, t.kl, t.kt, fun k => ?_, fun k b hb => ?_, t.ta, t.inj, t.ne⟩
  · unfold setW
    by_cases e : k = n
    · subst e; rw [if_pos rfl, h]; rfl
    · rw [if_neg e]; exact t.tn k
  · unfold setW
    by_cases e : k = n
    · subst e
      rw [h] at hb; cases hb
      exact ⟨l, if_pos rfl, upd_same⟩
    · obtain ⟨l', h1, h2⟩ := t.ti k b hb
      exact ⟨l', by rw [if_neg e]; exact h1, by rw [upd_ne (fun z => e (t.inj k n b hb (by rw [h, z])))]; exact h2⟩
theorem RoadF.put {C p : Addr} {R : List D} {go : List Bool} {f : Int → Option (List Int)} {m : Nat} {G F : Hp} {q g w : Addr} {ks : List (Key × V)} {tf : Int → Option Addr} (t : RoadF C p R go f m G F q g w ks tf) (n : Int) {a : Addr} (l : List Int) (ha : F a = none) :
    RoadF C p R go (setW f n l) (m + 1) G (upd (upd F a (.lst (l.map V.int))) w (.dK (putK ks (.inl n) (.ref a)))) q g w (putK ks (.inl n) (.ref a)) (fun k => if k = n then some a else tf k) := by
  have na : ∀ b, F b ≠ none → b ≠ a := fun b hb z => hb (by rw [z]; exact ha)
  obtain ⟨dx, ob⟩ := t.ob
  have np := na p (by rw [ob]; simp)
  have ng := na g (by rw [t.hg]; simp)
  have nw := na w (by rw [t.hw]; simp)
  have nt : ∀ k b, tf k = some b → b ≠ a := fun k b hb => by
    obtain ⟨l', _, h2⟩ := t.ti k b hb
    exact na b (by rw [h2]; simp)
  refine ⟨⟨dx, by rw [upd_ne t.ne.2.1, upd_ne np]; exact ob⟩, t.rq, by rw [upd_ne t.ne.2.2, upd_ne ng]; exact t.hg, upd_same, Nat.le_trans (length_putK _ _ _) (Nat.succ_le_succ t.kl), fun k => ?_, fun k => ?_, fun k b hb => ?_, fun k b hb => ?_, fun k k' b hb hb' => ?_, t.ne⟩
  · rw [valV_put]
    by_cases e : k = n
    · subst e; simp
    · have e2 : ¬ (Sum.inl k : Key) = .inl n := fun z => e (Sum.inl.inj z)
      rw [if_neg e2, if_neg e]; exact t.kt k
  · unfold setW
    by_cases e : k = n
    · simp [e]
    · simp only [e, if_false]; exact t.tn k
  · unfold setW
    by_cases e : k = n
    · simp only [e, if_true] at hb ⊢
      cases hb
      exact ⟨l, rfl, by rw [upd_ne (Ne.symm nw)]; exact upd_same⟩
    · simp only [e, if_false] at hb ⊢
      obtain ⟨l', h1, h2⟩ := t.ti k b hb
      exact ⟨l', h1, by rw [upd_ne (t.ta k b hb).2.2, upd_ne (nt k b hb)]; exact h2⟩
  · by_cases e : k = n
    · simp only [e, if_true] at hb
      cases hb
      exact ⟨Ne.symm np, Ne.symm ng, Ne.symm nw⟩
    · simp only [e, if_false] at hb
      exact t.ta k b hb
  · by_cases e : k = n <;> by_cases e' : k' = n
    · rw [e, e']
    · simp only [e, e', if_true, if_false] at hb hb'
      cases hb
      exact absurd rfl (nt k' _ hb')
    · simp only [e, e', if_true, if_false] at hb hb'
      cases hb'
      exact absurd rfl (nt k _ hb)
    · simp only [e, e', if_false] at hb hb'
      exact t.inj k k' b hb hb'
section
variable {E : Ent} {δ δ' : List Sl} {σ : L2.St} {G H G2 H2 : Hp} {te ta tb tc : TE} {d : D} {Φ : Out → Prop} {C p a : Addr} {R : List D} {go : List Bool} {f : Int → Option (List Int)} {m i j : Nat} {z n x : Int} {l : List Int} {mg : Str → Option Value} {X : (Int → Option Addr) → Prop} {u : TS} {b : Bool}
theorem St.atRoad (s : St E δ σ G H) (h0 : δ[i]? = some (.ob (roadX C p R go f m X))) : ∃ F q g w ks tf, σ[i]? = some (some (.ref p)) ∧ Reg E δ σ G H F ∧ RoadF C p R go f m G (F i) q g w ks tf ∧ X tf := by
  obtain ⟨o, ho⟩ := s.here h0
  obtain ⟨F, q⟩ := s.rg
  obtain ⟨v, e, hs⟩ := q.sl i _ o h0 ho
  subst e
  obtain ⟨e, q', g, w, ks, tf, t, hX⟩ := hs G (Same.refl G)
  subst e
  exact ⟨F, q', g, w, ks, tf, ho, q, t, hX⟩
theorem ev_roads (T : RoadT E.K mg C) (h0 : δ[i]? = some (.ob (roadX C p R go f m X))) : Ev E (tFld E.K (tVar i) "roads") δ (.list R) := fun σ G H Q s k => by
  obtain ⟨F, q', g, w, ks, tf, ho, q, t, hX⟩ := s.atRoad h0
  obtain ⟨dx, ob⟩ := t.ob
  exact ⟨.ref p, ho, p, C, dx, _, .ref q', rfl, q.in_ i _ _ ob, T.cl, T.nr, rfs_q q' g w, k _ G H (Gr.refl s.i) t.rq⟩
theorem evB_gone (T : RoadT E.K mg C) (h0 : δ[i]? = some (.ob (roadX C p R go f m X))) : EvB E (tFld E.K (tVar i) "gone") δ (go.map .bool) := fun σ G H Q s k => by
  obtain ⟨F, q', g, w, ks, tf, ho, q, t, hX⟩ := s.atRoad h0
  obtain ⟨dx, ob⟩ := t.ob
  exact ⟨.ref p, ho, p, C, dx, _, .ref g, rfl, q.in_ i _ _ ob, T.cl, T.ng, rfs_g q' g w, k g _ G H (Gr.refl s.i) (q.in_ i _ _ t.hg) (RpA.bools go)⟩
theorem xs_goneSet (T : RoadT E.K mg C) (h0 : δ[i]? = some (.ob (roadX C p R go f m X))) (ha : Ev E ta δ (.bool b)) (hb : Ev E tb δ (.int z)) (hj : z = (j : Int)) (hl : j < go.length) (k : Φ (.nx (δ.set i (.ob (roadX C p R (go.set j b) f m X))))) : Xs E (tAsg ta (gSub (tFld E.K (tVar i) "gone") tb rSetL)) δ Φ := fun σ G H Y s pq => by
  refine ha σ G H _ s fun v G1 H1 g1 r1 => ?_
  have r1 : v = .bl b := r1
  subst r1
  have s1 := s.grow g1
  obtain ⟨F, q', g, w, ks, tf, ho, q, t, hX⟩ := s1.atRoad h0
  obtain ⟨dx, ob⟩ := t.ob
  refine ⟨.ref p, ho, p, C, dx, _, .ref g, rfl, q.in_ i _ _ ob, T.cl, T.ng, rfs_g q' g w, hb σ G1 H1 _ s1 fun y G2 H2 g2 r2 => ?_⟩
  subst hj
  have r2 : y = .int (j : Int) := r2
  subst r2
  refine ⟨g, _, (j : Int), j, rfl, rfl, g2.h _ _ (q.in_ i _ _ t.hg), by
    have : j < (go.map V.bl).length := by rw [List.length_map]; exact hl
    unfold ixN; rw [if_pos (by omega), if_pos (by omega)]; simp, ?_⟩
  have e : (go.map V.bl).set j (V.bl b) = (go.set j b).map V.bl := by rw [List.map_set]
  rw [e]
  exact pq _ k σ G2 _ (g1.g.trans g2.g) (s1.change1 ho q g2 (by rw [t.hg]; simp) fun G' eg => ⟨rfl, q', g, w, ks, tf, (t.g2 (g2.g.trans eg)).setG, hX⟩)
/-- left = self.waiting[n] -/
theorem q_left (T : RoadT E.K mg C) (h0 : δ[i]? = some (.ob (roadX C p R go f m X))) (hb : Ev E tb δ (.int n)) (hf : f n = some l) (k : ∀ a, Xs E u ((δ.set i (.ob (roadX C p R go f m fun tf => tf n = some a))).set j (.v (.ref a))) Φ) :
    Xs E (tSeq (tAsg (tDGet (tFld E.K (tVar i) "waiting") tb) (gName j)) u) δ Φ := xs_seq fun σ G H Y s pq => by
  obtain ⟨F, q', g, w, ks, tf, ho, q, t, hX⟩ := s.atRoad h0
  obtain ⟨dx, ob⟩ := t.ob
  refine ⟨.ref p, ho, p, C, dx, _, .ref w, rfl, q.in_ i _ _ ob, T.cl, T.nw, rfs_w q' g w, hb σ G H _ s fun y G2 H2 g2 r2 => ?_⟩
  have r2 : y = .int n := r2
  subst r2
  have hs : (tf n).isSome = true := by rw [t.tn, hf]; rfl
  obtain ⟨a, ha⟩ := Option.isSome_iff_exists.mp hs
  have q2 := q.grow g2
  have s2 := s.grow g2
  refine ⟨w, .ref a, rfl, ?_, ?_⟩
  · have := DGet.k (k := .inl n) (g2.h _ _ (q.in_ i _ _ t.hw))
    rw [t.kt, ha] at this
    exact this
  · have s3 := s2.know (P' := roadX C p R go f m fun tf => tf n = some a) q2 ho fun G' e => ⟨rfl, q', g, w, ks, tf, t.g2 (g2.g.trans e), ha⟩
    exact pq (.nx _) (k a) _ G2 _ g2.g (s3.putB j (.v (.ref a)) (some (.ref a)) rfl)
theorem evB_left (h0 : δ[i]? = some (.ob (roadX C p R go f m fun tf => tf n = some a))) (hj : δ[j]? = some (.v (.ref a))) (hf : f n = some l) : EvB E (tVar j) δ (l.map .int) := fun σ G H Q s k => by
  obtain ⟨F, q', g, w, ks, tf, ho, q, t, hX⟩ := s.atRoad h0
  obtain ⟨l', h1, h2⟩ := t.ti n a hX
  rw [hf] at h1; cases h1
  exact ⟨.ref a, s.atV hj, k a _ G H (Gr.refl s.i) (q.in_ i _ _ h2) (RpA.ints l)⟩
theorem setW_set (f : Int → Option (List Int)) (n : Int) (l l' : List Int) : setW (setW f n l) n l' = setW f n l' := by
  funext k
  unfold setW
  by_cases e : k = n <;> simp [e]
/-- left.pop() -/
theorem evM_left (h0 : δ[i]? = some (.ob (roadX C p R go f m fun tf => tf n = some a))) (hj : δ[j]? = some (.v (.ref a))) (hf : f n = some (l ++ [x])) : EvM E (tBM0 E.K "list" rPop (tVar j)) δ (δ.set i (.ob (roadX C p R go (setW f n l) m fun tf => tf n = some a))) (.int x) := fun σ G H Q s k => by
  obtain ⟨F, q', g, w, ks, tf, ho, q, t, hX⟩ := s.atRoad h0
  obtain ⟨l', h1, h2⟩ := t.ti n a hX
  rw [hf] at h1; cases h1
  have hH := q.in_ i _ _ h2
  have e : ((l ++ [x]).map V.int).dropLast = l.map V.int := by rw [List.map_append]; simp
  refine ⟨.ref a, s.atV hj, .inl ⟨rfl, _, SqL.of hH⟩, a, _, .int x, rfl, rfl, hH, by simp, ?_⟩
  rw [e]
  exact k (.int x) G _ (Same.refl G) (s.change1 ho q (Gr.refl s.i) (by rw [h2]; simp) fun G' eg => ⟨rfl, q', g, w, ks, tf, (t.g2 eg).setT hX l, hX⟩) rfl
/-- a road put ahead of what waits at a number -/
theorem xs_waitPut (T : RoadT E.K mg C) (h0 : δ[i]? = some (.ob (roadB C p R go f m))) (hb : Ev E tb δ (.int n)) (ha : Ev E ta δ (.int x)) (hm : m < 100000) (hl : ∀ l, f n = some l → l.length < 100000) (k : Φ (.nx (δ.set i (.ob (roadB C p R go (setW f n (x :: (f n).getD [])) (m + 1)))))) :
    Xs E (sDPut (tFld E.K (tVar i) "waiting") tb (tOp rCat (tLst (tCons ta tNil)) (tDGet2 (tFld E.K (tVar i) "waiting") tb (tLst tNil)))) δ Φ := fun σ G H Y s pq => by
  unfold sDPut tOp
  refine evF_lst (E := E) (δ := δ) (ed_cons ha ed_nil) (by show 1 ≤ 100000; decide) σ G H _ s fun a1 vs1 G1 H1 g1 ha1 ga1 h1 r1 => ?_
  obtain ⟨v1, w1, e1, rv1, rw1⟩ := r1
  have rv1 : v1 = .int x := rv1
  have rw1 : w1 = [] := rw1
  subst rv1 rw1 e1
  have s1 := s.grow g1
  obtain ⟨F, q', g, w, ks, tf, ho, q, t, hX⟩ := s.atRoad h0
  obtain ⟨dx, ob⟩ := t.ob
  have old : ∀ {H'}, Same H H' → ∀ b o, F i b = some o → H' b = some o := fun e b o hb => e _ _ (q.in_ i b o hb)
  refine ⟨.ref p, ho, p, C, dx, _, .ref w, rfl, old g1.h _ _ ob, T.cl, T.nw, rfs_w q' g w, ?_⟩
  refine ⟨w, rfl, .inl ⟨ks, .inl (old g1.h _ _ t.hw)⟩, hb σ G1 H1 _ s1 fun y G2 H2 g2 r2 => ?_⟩
  have r2 : y = .int n := r2
  subst r2
  have g12 := g1.trans g2
  refine evF_lst (E := E) (δ := δ) (t := tNil) (ds := []) ed_nil (by decide) σ G2 H2 _ (s.grow g12) fun a3 vs3 G3 H3 g3 ha3 ga3 h3 r3 => ?_
  have r3 : vs3 = [] := r3
  subst r3
  have g13 := g12.trans g3
  have dg : DGet H3 w (.int n) ((tf n).map V.ref) := by
    have := DGet.k (k := .inl n) (old g13.h _ _ t.hw)
    rw [t.kt] at this
    exact this
  refine ⟨(tf n).map V.ref, dg, ?_⟩
  -- the list that stood there
  obtain ⟨b, ho2, hb2⟩ : ∃ b, ((tf n).map V.ref).getD (V.ref a3) = V.ref b ∧ H3 b = some (.lst (((f n).getD []).map V.int)) := by
    cases e : tf n with
    | none =>
      have : f n = none := by
        have := t.tn n
        rw [e] at this
        cases hf : f n with
        | none => rfl
        | some l => rw [hf] at this; cases this
      exact ⟨a3, rfl, by rw [this]; exact h3⟩
    | some a =>
      obtain ⟨l, h4, h5⟩ := t.ti n a e
      exact ⟨a, rfl, by rw [h4]; exact old g13.h _ _ h5⟩
  rw [ho2]
  have hlen : ((f n).getD []).length < 100000 := by
    cases hf : f n with
    | none => decide
    | some l => exact hl l hf
  refine ⟨a1, b, _, _, rfl, rfl, (g2.trans g3).h _ _ h1, hb2, by
    rw [List.length_map]
    have : (100001 : Nat) ≤ sizeLine := by decide
    show 1 + _ ≤ sizeLine
    omega, fun p4 hp4 => ?_⟩
  have e5 : ([V.int x] ++ ((f n).getD []).map V.int) = (x :: (f n).getD []).map V.int := rfl
  rw [e5]
  have g4 : Gr G3 H3 G3 (upd H3 p4 (.lst ((x :: (f n).getD []).map V.int))) := Gr.side g3.i (same_new hp4)
  have g14 := g13.trans g4
  refine ⟨.ref p, ho, p, C, dx, _, .ref w, rfl, old g14.h _ _ ob, T.cl, T.nw, rfs_w q' g w, hb σ G3 _ _ (s.grow g14) fun y G5 H5 g5 r5 => ?_⟩
  have r5 : y = .int n := r5
  subst r5
  have g15 := g14.trans g5
  have hw5 := old g15.h _ _ t.hw
  have np4 : ∀ b o, F i b = some o → b ≠ p4 := fun b o hb z => by
    have := old g13.h b o hb
    rw [z, hp4] at this; cases this
  have hp5 : H5 p4 = some (.lst ((x :: (f n).getD []).map V.int)) := g5.h _ _ upd_same
  have Fp4 : F i p4 = none := by
    cases e : F i p4 with
    | none => rfl
    | some o => exact absurd rfl (np4 p4 o e)
  have nw4 : p4 ≠ w := fun z => by rw [z, t.hw] at Fp4; cases Fp4
  refine ⟨w, _, rfl, DPut.k (k := .inl n) hw5 (Nat.lt_of_le_of_lt t.kl (Nat.lt_of_lt_of_le hm (by decide))), ?_⟩
  refine pq _ k σ G5 _ g15.g (s.changeF (F' := upd (upd (F i) p4 (.lst ((x :: (f n).getD []).map V.int))) w (.dK (putK ks (.inl n) (.ref p4)))) ho q g15 (fun b o hb hf => ?_) (fun b o hb => ?_) (fun b hb => ?_) fun G' eg => ⟨rfl, q', g, w, _, _, (t.g2 (g15.g.trans eg)).put n _ Fp4, trivial⟩)
  · have : b ≠ w := fun z => by rw [z, t.hw] at hf; cases hf
    rw [upd_ne this]; exact hb
  · by_cases z : b = w
    · subst z; rw [upd_same] at hb ⊢; exact hb
    · rw [upd_ne z] at hb ⊢
      by_cases z2 : b = p4
      · subst z2; rw [upd_same] at hb; cases hb; exact hp5
      · rw [upd_ne z2] at hb; exact old g15.h b o hb
  · by_cases z : b = w
    · subst z; exact .inl (by rw [t.hw]; simp)
    · rw [upd_ne z] at hb
      by_cases z2 : b = p4
      · subst z2
        have hb0 : H b = none := g13.h.free hp4
        have gb3 : G3 b = none := g3.i.free hp4
        exact .inr ⟨hb0, g5.n b (by rw [upd_same]; simp) gb3⟩
      · rw [upd_ne z2] at hb; exact .inl hb
/-- the three fields set -/
theorem q_R_head (T : RoadT E.K mg C) (h0 : δ[i]? = some (.ob (insB C p))) (hj : δ[j]? = some (.d (.list R))) (hij : i ≠ j) (hl : R.length ≤ 100000) (k : Xs E u (δ.set i (.ob (roadB C p R (List.replicate R.length false) (fun _ => none) 0))) Φ) :
    Xs E (tSeq (sFld E.K (tVar i) (tVar j) "roads") (tSeq (sFld E.K (tVar i) (tOp rRep (tLst (tCons (tC (.bl false)) tNil)) (tCB (cLen E.K) (tCons (tVar j) tNil))) "gone") (tSeq (sFld E.K (tVar i) tDNewK "waiting") u))) δ Φ := fun σ G H Y s pq => by
  obtain ⟨o, ho⟩ := s.here h0
  obtain ⟨F, q⟩ := s.rg
  obtain ⟨v, e, hs⟩ := q.sl i _ o h0 ho
  subst e
  obtain ⟨e, dx, ob⟩ := hs G (Same.refl G)
  subst e
  obtain ⟨vj, hoj, rj⟩ := s.atD hj
  obtain ⟨a, vs, ea, ha, ra⟩ := rj
  subst ea
  have obH := q.in_ i _ _ ob
  have zp := q.out i p (by rw [ob]; simp)
  have ap : a ≠ p := fun z => by rw [z, zp.1] at ha; cases ha
  -- roads
  refine ⟨.ref a, hoj, .ref p, ho, p, C, dx, [], rfl, obH, T.cl, T.nr, by decide, ?_⟩
  have e1 : putF ("roads" : Str) (V.ref a) [] = [(("roads" : Str), V.ref a)] := rfl
  rw [e1]
  -- gone
  show (tOp rRep (tLst (tCons (tC (.bl false)) tNil)) (tCB (cLen E.K) (tCons (tVar j) tNil))) σ (upd H p (.ins C dx [("roads", .ref a)])) _
  show tLst (tCons (tC (.bl false)) tNil) σ (upd H p (.ins C dx [("roads", .ref a)])) _
  refine ⟨by show 1 ≤ sizeLine; decide, fun a1 ha1 => ?_⟩
  refine ⟨.ref a, hoj, .ref a, vs.length, rfl, .inl ⟨vs, SqL.of (by
    have n1 : a ≠ a1 := fun z => by rw [← z, upd_ne ap] at ha1; rw [s.i _ _ ha] at ha1; cases ha1
    rw [upd_ne n1, upd_ne ap]; exact s.i _ _ ha), rfl⟩, ?_⟩
  have hR := ra.len
  refine ⟨a1, (vs.length : Int), [.bl false], rfl, rfl, upd_same, by omega, by omega, by
    show 1 * _ ≤ sizeLine
    rw [Int.toNat_natCast, hR]
    have : (100000 : Nat) ≤ sizeLine := by decide
    omega, fun g hg => ?_⟩
  have e2 : (List.replicate (vs.length : Int).toNat [V.bl false]).flatten = (List.replicate R.length false).map V.bl := by
    rw [Int.toNat_natCast, hR]
    simp [List.map_replicate, List.flatten_replicate_singleton]
  rw [e2]
  have n1p : a1 ≠ p := fun z => by rw [z, upd_same] at ha1; cases ha1
  have gp : g ≠ p := fun z => by rw [z, upd_ne (Ne.symm n1p), upd_same] at hg; cases hg
  have ga1 : g ≠ a1 := fun z => by rw [z, upd_same] at hg; cases hg
  refine ⟨.ref p, ho, p, C, dx, [("roads", .ref a)], rfl, by rw [upd_ne (Ne.symm gp), upd_ne (Ne.symm n1p), upd_same], T.cl, T.ng, by show 1 < 1000; decide, ?_⟩
  have e3 : putF ("gone" : Str) (V.ref g) [(("roads" : Str), V.ref a)] = [(("roads" : Str), V.ref a), (("gone" : Str), V.ref g)] := by simp only [putF]; rfl
  rw [e3]
  -- waiting
  intro w hw
  have wp : w ≠ p := fun z => by rw [z, upd_same] at hw; cases hw
  rw [upd_ne wp] at hw
  have wg : w ≠ g := fun z => by rw [z, upd_same] at hw; cases hw
  rw [upd_ne wg] at hw
  have wa1 : w ≠ a1 := fun z => by rw [z, upd_same] at hw; cases hw
  rw [upd_ne wa1, upd_ne wp] at hw
  rw [upd_ne ga1, upd_ne gp] at hg
  rw [upd_ne n1p] at ha1
  refine ⟨.ref p, ho, p, C, dx, [("roads", .ref a), ("gone", .ref g)], rfl, by rw [upd_ne (Ne.symm wp), upd_same], T.cl, T.nw, by show 2 < 1000; decide, ?_⟩
  have e4 : putF ("waiting" : Str) (V.ref w) [(("roads" : Str), V.ref a), (("gone" : Str), V.ref g)] = rfs a g w := by simp only [putF]; rfl
  rw [e4]
  refine k σ G _ _ (s.changeF (G2 := G) (H2 := upd (upd (upd H a1 (.lst [.bl false])) g (.lst ((List.replicate R.length false).map V.bl))) w (.dK [])) (F' := upd (upd (upd (F i) g (.lst ((List.replicate R.length false).map V.bl))) w (.dK [])) p (.ins C dx (rfs a g w))) ho q ?_ (fun b o hb hf => ?_) (fun b o hb => ?_) (fun b hb => ?_) fun G' eg => ⟨rfl, a, g, w, [], fun _ => none, ⟨⟨dx, upd_same⟩, ⟨a, vs, rfl, eg _ _ ha, RpA.mono eg _ _ ra⟩, ?_, ?_, Nat.le_refl _, fun _ => rfl, fun _ => rfl, fun _ _ h => (nomatch h), fun _ _ h => (nomatch h), fun _ _ _ h => (nomatch h), Ne.symm gp, Ne.symm wp, Ne.symm wg⟩, trivial⟩) pq
  · refine Gr.side s.i (((same_new ha1).trans (same_new ?_)).trans (same_new ?_))
    · rw [upd_ne ga1]; exact hg
    · rw [upd_ne wg, upd_ne wa1]; exact hw
  · have bp : b ≠ p := fun z => by rw [z, ob] at hf; cases hf
    rw [upd_ne bp]
    by_cases z : b = w
    · subst z; rw [upd_same] at hb ⊢; exact hb
    · rw [upd_ne z] at hb ⊢
      rw [upd_ne bp]
      by_cases z2 : b = g
      · subst z2; rw [upd_same] at hb ⊢; exact hb
      · rw [upd_ne z2] at hb ⊢
        by_cases z3 : b = a1
        · subst z3; rw [upd_same] at hb ⊢; exact hb
        · rw [upd_ne z3] at hb ⊢
          rw [upd_ne bp]; exact hb
  · by_cases z : b = p
    · subst z; rw [upd_same] at hb ⊢; exact hb
    · rw [upd_ne z] at hb ⊢
      by_cases z2 : b = w
      · subst z2; rw [upd_same] at hb ⊢; exact hb
      · rw [upd_ne z2] at hb ⊢
        rw [upd_ne z]
        by_cases z3 : b = g
        · subst z3; rw [upd_same] at hb ⊢; exact hb
        · rw [upd_ne z3] at hb ⊢
          have hH := q.in_ i _ _ hb
          have z4 : b ≠ a1 := fun z => by rw [z, ha1] at hH; cases hH
          rw [upd_ne z4, upd_ne z]; exact hH
  · by_cases z : b = p
    · subst z; exact .inl (by rw [ob]; simp)
    · rw [upd_ne z] at hb
      by_cases z2 : b = w
      · subst z2; exact .inr ⟨hw, s.i.free hw⟩
      · rw [upd_ne z2] at hb
        by_cases z3 : b = g
        · subst z3; exact .inr ⟨hg, s.i.free hg⟩
        · rw [upd_ne z3] at hb; exact .inl hb
  · rw [upd_ne gp, upd_ne (Ne.symm wg)]; exact upd_same
  · rw [upd_ne wp]; exact upd_same
end
end PL

/-! PNest2: own lists of own lists handed on, put together, made of one, borrowed; things lent for a while. -/
namespace PL
open PySem PySem.Spec PyProof.Rows L2
theorem NestR.append {G F : Hp} {us : List Addr} {yss : List (List D)} (k : NestR G F us yss) : ∀ {ts : List Addr} {xss : List (List D)}, NestR G F ts xss → NestR G F (ts ++ us) (xss ++ yss)
  | [], [], _ => k
  | _ :: _, _ :: _, ⟨h1, h⟩ => ⟨h1, NestR.append k h⟩
  | [], _ :: _, h => nomatch h
  | _ :: _, [], h => nomatch h
theorem NestR.here {G F : Hp} {ts : List Addr} {xss : List (List D)} (h : NestR G F ts xss) {t : Addr} (ht : t ∈ ts) : ∃ vs, F t = some (.lst vs) := by
  obtain ⟨j, hj⟩ := List.mem_iff_getElem?.mp ht
  have lt : j < xss.length := by rw [← h.len]; exact (List.getElem?_eq_some_iff.mp hj).1
  obtain ⟨u, w, k1, k2, _⟩ := h.get (List.getElem?_eq_getElem lt)
  rw [hj] at k1; cases k1
  exact ⟨w, k2⟩
theorem nestP_mono {xss : List (List D)} : Mono2 (NestP xss) := ⟨fun e f ⟨p, ts, h1, h2, h3, h4⟩ => ⟨p, ts, h1, f _ _ h2, h3, h4.grow e f⟩⟩
section
variable {E : Ent} {δ δ' : List Sl} {σ : L2.St} {G H G2 H2 : Hp} {te ta tb tc : TE} {tt : TT} {d : D} {r : Sl} {Φ : Out → Prop} {i j : Nat} {u t : TS} {z : Int} {xs : List D} {xss yss : List (List D)} {K : PySem.W.Frag}
/-- x, x a thing of its own: handed on -/
theorem evR_take {P : Hp → Hp → V → Prop} (h0 : δ[i]? = some (.ob P)) : EvR E (tVar i) δ (δ.set i .no) (.ob P) := fun σ G H Q s k => by
  obtain ⟨o, ho⟩ := s.here h0
  have lt : i < δ.length := (List.getElem?_eq_some_iff.mp h0).1
  have hl := s.len
  obtain ⟨F, q⟩ := s.rg
  obtain ⟨v, e, hs⟩ := q.sl i _ o h0 ho
  subst e
  refine ⟨v, ho, k v G H (Same.refl G) ⟨s.g, s.h, s.n, s.i, by simp [hl], fun j => if j = i then none0 else if j = δ.length then F i else F j, fun j => ?_, fun j a h => ?_, fun j k a ne h => ?_, fun j t o' h1 h2 => ?_⟩⟩
  · split
    · exact fun _ _ z => nomatch z
    · split
      · exact q.in_ i
      · exact q.in_ j
  · split at h
    · exact absurd rfl h
    · split at h
      · exact q.out i a h
      · exact q.out j a h
  · by_cases e1 : j = i
    · rw [if_pos e1] at h; exact absurd rfl h
    · rw [if_neg e1] at h
      by_cases e2 : k = i
      · rw [if_pos e2]; rfl
      · rw [if_neg e2]
        by_cases e3 : j = δ.length
        · rw [if_pos e3] at h
          rw [if_neg (fun z => ne (e3.trans z.symm))]
          exact q.ap i k a (Ne.symm e2) h
        · rw [if_neg e3] at h
          by_cases e4 : k = δ.length
          · rw [if_pos e4]; exact q.ap j i a e1 h
          · rw [if_neg e4]; exact q.ap j k a ne h
  · by_cases e3 : j = δ.length
    · subst e3
      have e5 : t = .ob P := by
        have : (δ.set i Sl.no).length = δ.length := by simp
        rw [← this] at h1
        simpa using h1.symm
      have e6 : o' = some v := by rw [← hl] at h2; simpa using h2.symm
      subst e5 e6
      rw [if_neg (by omega), if_pos rfl]
      exact ⟨v, rfl, hs⟩
    · have lj : j < δ.length := by
        have := (List.getElem?_eq_some_iff.mp h1).1
        simp at this
        omega
      rw [List.getElem?_append_left (by simpa using lj)] at h1
      rw [List.getElem?_append_left (by rw [hl]; exact lj)] at h2
      by_cases e1 : j = i
      · subst e1
        rw [List.getElem?_set] at h1
        simp only [if_true, lj] at h1
        cases h1
        rw [if_pos rfl]; trivial
      · rw [List.getElem?_set_ne (Ne.symm e1)] at h1
        rw [if_neg e1, if_neg e3]
        exact q.sl j t o' h1 h2
/-- x = [[]] -/
theorem q_nest1 (k : Xs E u (δ.set i (nest [[]])) Φ) : Xs E (tSeq (tAsg (tLst (tCons (tLst tNil) tNil)) (gName i)) u) δ Φ := xs_seq fun σ G H X s pq => by
  show tLst tNil σ H fun v H1 => [v].length ≤ sizeLine ∧ ∀ p, H1 p = none → X.nx (σ.set i (some (.ref p))) (upd H1 p (.lst [v]))
  refine evF_lst (E := E) (δ := δ) (t := tNil) (ds := []) ed_nil (by decide) σ G H _ s fun a vs G1 H1 g1 ha1 ga1 h1 r1 => ?_
  refine ⟨by show 1 ≤ sizeLine; decide, fun p hp => ?_⟩
  have r1 : vs = [] := r1
  subst r1
  have npa : p ≠ a := fun z => by rw [z, h1] at hp; cases hp
  refine pq (.nx (δ.set i (nest [[]]))) k _ G1 _ g1.g (s.put (g1.trans (Gr.side g1.i (same_new hp))) i (nest [[]]) (some (.ref p)) (fun x => if x ∈ [p, a] then upd H1 p (.lst [.ref a]) x else none) (fun x o h => ?_) (fun x h => ?_) ⟨_, rfl, fun G' eg => ⟨p, [a], rfl, ?_, by simp [npa], ⟨[], ?_, rfl⟩, trivial⟩⟩)
  · try dsimp only at h
    split at h
    · exact h
    · cases h
  · try dsimp only at h
    split at h
    · rename_i c
      simp only [List.mem_cons, List.not_mem_nil, or_false] at c
      rcases c with rfl | rfl
      · exact ⟨g1.h.free hp, g1.i.free hp⟩
      · exact ⟨ha1, ga1⟩
    · exact absurd rfl h
  · exact (if_pos (by simp)).trans upd_same
  · exact (if_pos (by simp)).trans ((upd_ne (Ne.symm npa)).trans h1)
/-- xs[z].append(d), z any index -/
theorem evM_nestAppI (h0 : δ[i]? = some (nest xss)) (hb : Ev E tb δ (.int z)) (hj : ∀ ts : List V, ts.length = xss.length → atI ts z = ts[j]?) (hx : xss[j]? = some xs) (ha : Ev E te δ d) (hz : xs.length < 100000) :
    EvM E (tBM E.K "list" rAppend (tOp (rIxL E.K) (tVar i) tb) (tCons te tNil)) δ (δ.set i (nest (xss.set j (xs ++ [d])))) .none := fun σ G H Q s k => by
  obtain ⟨p, ts, F, ho, q, h1, h3, h4⟩ := s.atNest h0
  have hp := q.in_ i _ _ h1
  refine ⟨.ref p, ho, hb σ G H _ s fun y G1 H1 g1 r1 => ?_⟩
  have r1 : y = .int z := r1
  subst r1
  obtain ⟨t, vs, k1, k2, k3⟩ := h4.get hx
  have ht := q.in_ i _ _ k2
  refine ⟨p, ts.map V.ref, z, .ref t, rfl, rfl, SqL.of (g1.h _ _ hp), by rw [hj _ (by rw [List.length_map, h4.len]), List.getElem?_map, k1]; rfl, .inl ⟨rfl, _, SqL.of (g1.h _ _ ht)⟩, ha σ G1 H1 _ (s.grow g1) fun v G2 H2 g2 r2 => ?_⟩
  have g := g1.trans g2
  have k3' := RpA.mono g.g _ _ k3
  refine ⟨t, vs, v, rfl, rfl, g.h _ _ ht, by rw [k3.len]; exact Nat.lt_of_lt_of_le hz (by decide), ?_⟩
  exact k _ G2 _ g.g (s.nestIn (H3 := upd H2 t (.lst (vs ++ [v]))) ho q h1 h3 h4 g k1 k2 upd_same (fun b hb => upd_ne hb) (k3'.snoc r2)) rfl
/-- xs.extend(a new list of new lists) -/
theorem evM_nestExt (h0 : δ[i]? = some (nest xss)) (ha : EvO E te δ (nest yss)) (hz : xss.length + yss.length ≤ 100000) : EvM E (tBM E.K "list" rExtend (tVar i) (tCons te tNil)) δ (δ.set i (nest (xss ++ yss))) .none := fun σ G H Q s k => by
  obtain ⟨p, ts, F, ho, q, h1, h3, h4⟩ := s.atNest h0
  have hp := q.in_ i _ _ h1
  refine ⟨.ref p, ho, .inl ⟨rfl, _, SqL.of hp⟩, ha σ G H _ s fun v Fy G2 H2 g iy ny hr => ?_⟩
  obtain ⟨w, e, hw⟩ := hr
  cases e
  obtain ⟨b, us, e, y1, y2, y3⟩ := hw G2 (Same.refl G2)
  subst e
  have old : ∀ a, Fy a ≠ none → F i a = none := fun a h => by
    cases c : F i a with
    | none => rfl
    | some o => exact absurd (ny a h).1 (not_none (q.in_ i) (by rw [c]; simp))
  have npb : p ≠ b := fun z => by
    have := old b (by rw [y1]; simp)
    rw [← z, h1] at this; cases this
  refine ⟨p, b, ts.map V.ref, us.map V.ref, rfl, rfl, g.h _ _ hp, iy _ _ y1, by rw [List.length_map, List.length_map, h4.len, y3.len]; exact Nat.le_trans hz (by decide), ?_⟩
  have em : ts.map V.ref ++ us.map V.ref = (ts ++ us).map V.ref := by rw [List.map_append]
  rw [em]
  have np : ¬ p ∈ ts := (List.nodup_cons.mp h3).1
  have npu : ∀ t ∈ us, t ≠ p := fun t ht z => by
    obtain ⟨w, hw⟩ := y3.here ht
    have := old t (by rw [hw]; simp)
    rw [z, h1] at this; cases this
  refine k _ G2 _ g.g (s.changeF (F' := upd (jn (F i) Fy) p (.lst ((ts ++ us).map V.ref))) ho q g (fun a o hb hf => ?_) (fun a o hb => ?_) (fun a hb => ?_) fun G' eg => ⟨p, ts ++ us, rfl, upd_same, ?_, ?_⟩) rfl
  · have : a ≠ p := fun z => by rw [z, h1] at hf; cases hf
    rw [upd_ne this]; exact hb
  · by_cases z : a = p
    · subst z; rw [upd_same] at hb ⊢; exact hb
    · rw [upd_ne z] at hb ⊢
      rcases jn_some hb with c | ⟨_, c⟩
      · exact g.h _ _ (q.in_ i a o c)
      · exact iy a o c
  · by_cases z : a = p
    · subst z; exact .inl (by rw [h1]; simp)
    · rw [upd_ne z] at hb
      cases c : F i a with
      | some o => exact .inl (by simp)
      | none =>
        have : Fy a ≠ none := fun w => hb (jn_none c w)
        exact .inr (ny a this)
  · have : p :: (ts ++ us) = (p :: ts) ++ us := rfl
    rw [this, List.nodup_append]
    refine ⟨h3, (List.nodup_cons.mp y2).2, fun x hx y hy e => ?_⟩
    obtain ⟨w, hw⟩ := y3.here hy
    have no := old y (by rw [hw]; simp)
    rcases List.mem_cons.mp hx with c | c
    · exact npu y hy (by rw [← e, c])
    · obtain ⟨w2, hw2⟩ := h4.here c
      rw [e, no] at hw2; cases hw2
  · refine NestR.append (y3.mono eg fun t ht => ?_) (h4.mono (g.g.trans eg) fun t ht => ?_)
    · rw [upd_ne (npu t ht)]
      obtain ⟨w, hw⟩ := y3.here ht
      rw [hw]
      exact jn_r old _ _ hw |> fun h => by
        have no := old t (by rw [hw]; simp)
        unfold jn; rw [no]; exact hw
    · rw [upd_ne (fun z => np (by rw [← z]; exact ht))]
      obtain ⟨w, hw⟩ := h4.here ht
      rw [hw]
      exact jn_l _ _ hw
/-- walking a borrowed list of lists -/
theorem eip_nest (h0 : δ[i]? = some (bor (NestP xss) E.H)) : EvIp E (iList K (tVar i)) δ (xss.map fun row G v => listB row G E.H v) := fun σ G H R s k => by
  obtain ⟨o, ho⟩ := s.here h0
  obtain ⟨F, q⟩ := s.rg
  obtain ⟨v, ev, hs⟩ := q.sl i _ o h0 ho
  subst ev
  obtain ⟨p, ts, ev, h1, h2, h3⟩ := hs G (Same.refl G)
  subst ev
  refine ⟨.ref p, ho, p, rfl, ⟨_, SqL.of (s.h _ _ h1)⟩, k _ G H (Gr.refl s.i) ?_⟩
  have w := (walk_list (K := K) (a := p) (xs := ts.map V.ref)).mono (G' := fun H' => Same H H') (Y' := fun i' H1 v H' => ∀ G', Same G G' → Same G' H1 → ∃ G2 P, (xss.map fun row G v => listB row G E.H v)[i']? = some P ∧ Gr G' H1 G2 H' ∧ P G2 v) (fun H' e => SqL.of (e _ _ (s.h _ _ h1))) fun i' H1 v H' hi e y G' e1 e2 => by
    obtain ⟨ee, hv⟩ := y
    subst ee
    rw [List.length_map, h3.len] at hi
    obtain ⟨t0, w0, k1, k2, k3⟩ := h3.get (List.getElem?_eq_getElem hi)
    have hv2 : v = .ref t0 := by
      rw [List.getElem?_map, k1] at hv
      exact (Option.some.inj hv).symm
    subst hv2
    exact ⟨G', fun G v => listB xss[i'] G E.H v, by rw [List.getElem?_map, List.getElem?_eq_getElem hi]; rfl, Gr.refl e2, (show listB xss[i'] G' E.H (.ref t0) from ⟨t0, w0, rfl, k2, RpA.mono e1 _ _ k3⟩)⟩
  rw [List.length_map, h3.len] at w
  unfold WalkP
  rw [List.length_map]
  exact w
/-- isinstance(x, list), x borrowed -/
theorem ev_isiB (h : ∀ σ G H, St E δ σ G H → ∃ a vs, σ[i]? = some (some (.ref a)) ∧ H a = some (.lst vs)) : Ev E (tCB (rIsi E.K) (tCons (tVar i) (tCons (tC (.ty "list")) tNil))) δ (.bool true) := fun σ G H Q s k => by
  obtain ⟨a, vs, ho, h1⟩ := h σ G H s
  exact ⟨.ref a, ho, .ref a, .ty "list", _, _, true, rfl, .ty "list", .base (.lst h1), kit_ty (kit_list (.list [])), k _ G H (Gr.refl s.i) rfl⟩
/-- a datum whose very value is known -/
def pd (v : V) (x : D) : Sl := .ob fun G _ w => w = v ∧ Rp G x w
theorem ev_pd {v : V} {x : D} (h : δ[i]? = some (pd v x)) : Ev E (tVar i) δ x := fun σ G H Q s k => by
  obtain ⟨o, ho⟩ := s.here h
  obtain ⟨F, q⟩ := s.rg
  obtain ⟨w, e, hs⟩ := q.sl i _ o h ho
  subst e
  exact ⟨w, ho, k w G H (Gr.refl s.i) (hs G (Same.refl G)).2⟩
/-- an own list of own lists in slot i, a datum in slot j: lent, as data, while t runs; behind it all else is forgotten -/
theorem xs_lendM {x : D} (hij : i ≠ j) (h0 : δ[i]? = some (nest xss)) (hj : δ[j]? = some (.d x))
    (h : ∀ v w, Xs E t ((δ.set i (pd v (.list (xss.map .list)))).set j (pd w x)) fun o => ∃ δ2, o = .nx δ2 ∧ δ2.length = δ.length ∧ δ2[i]? = some (pd v (.list (xss.map .list))) ∧ δ2[j]? = some (pd w x))
    (k : Φ (.nx (((List.replicate δ.length Sl.no).set i (nest xss)).set j (.d x)))) : Xs E t δ Φ := fun σ G H X s pq => by
  obtain ⟨o, ho⟩ := s.here h0
  obtain ⟨w, hoj, rj⟩ := s.atD hj
  have lti : i < δ.length := (List.getElem?_eq_some_iff.mp h0).1
  have ltj : j < δ.length := (List.getElem?_eq_some_iff.mp hj).1
  obtain ⟨F, q⟩ := s.rg
  obtain ⟨v, e, hs⟩ := q.sl i _ o h0 ho
  subst e
  have offF : ∀ a, F i a ≠ none → G a = none := fun a ha => (q.out i a ha).1
  have rv : Rp (jn G (F i)) (.list (xss.map .list)) v := nest_rp (hs G (Same.refl G)) offF
  have sg : Same G (jn G (F i)) := jn_l
  have s1 : St E ((δ.set i (pd v (.list (xss.map .list)))).set j (pd w x)) σ (jn G (F i)) H := by
    refine ⟨s.g.trans sg, s.h, fun a ha ga => jn_none (s.n a ha ga) ?_, jn_in s.i (q.in_ i), by simp [s.len], fun k => if k = i ∨ k = j then none0 else F k, fun k => ?_, fun k a hf => ?_, fun k m a ne hf => ?_, fun k t' o' q1 q2 => ?_⟩
    · cases e : F i a with
      | none => rfl
      | some o => exact absurd (q.out i a (by rw [e]; simp)).2 ha
    · split
      · exact fun _ _ y => nomatch y
      · exact q.in_ k
    · split at hf
      · exact absurd rfl hf
      · rename_i c
        have y := q.out k a hf
        exact ⟨jn_none y.1 (q.ap k i a (fun z => c (.inl z)) hf), y.2⟩
    · split at hf
      · exact absurd rfl hf
      · split
        · rfl
        · exact q.ap k m a ne hf
    · by_cases e1 : k = j
      · subst e1
        rw [if_pos (.inr rfl)]
        rw [List.getElem?_set] at q1
        simp only [if_true, List.length_set, ltj] at q1
        cases q1
        rw [hoj] at q2; cases q2
        exact ⟨w, rfl, fun G' e => ⟨rfl, Rp.mono (sg.trans e) _ _ rj⟩⟩
      · rw [List.getElem?_set_ne (Ne.symm e1)] at q1
        by_cases e2 : k = i
        · subst e2
          rw [if_pos (.inl rfl)]
          rw [List.getElem?_set] at q1
          simp only [if_true, lti] at q1
          cases q1
          rw [ho] at q2; cases q2
          exact ⟨v, rfl, fun G' e => ⟨rfl, Rp.mono e _ _ rv⟩⟩
        · rw [List.getElem?_set_ne (Ne.symm e2)] at q1
          rw [if_neg (fun z => z.elim e2 e1)]
          exact (q.sl k t' o' q1 q2).mono sg
  refine h v w σ (jn G (F i)) H X s1 fun o' ⟨δ2, eo, hl2, hi2, hj2⟩ => ?_
  subst eo
  intro σ2 G2 H2 e2 s2
  refine pq _ k σ2 G H2 (Same.refl G) ?_
  have sGH : Same G H2 := (sg.trans e2).trans s2.i
  have hl : σ2.length = δ.length := by rw [s2.len, hl2]
  obtain ⟨F2, q2⟩ := s2.rg
  have at_i : σ2[i]? = some (some v) := by
    obtain ⟨o, ho⟩ := s2.here hi2
    obtain ⟨y, e, hy⟩ := q2.sl i _ o hi2 ho
    subst e
    rw [ho, (hy G2 (Same.refl G2)).1]
  have at_j : σ2[j]? = some (some w) := by
    obtain ⟨o, ho⟩ := s2.here hj2
    obtain ⟨y, e, hy⟩ := q2.sl j _ o hj2 ho
    subst e
    rw [ho, (hy G2 (Same.refl G2)).1]
  have inF : Same (F i) H2 := (jn_r offF).trans (e2.trans s2.i)
  refine ⟨s.g, s2.h, s.n, sGH, by simp [hl], fun k => if k = i then F i else none0, fun k => ?_, fun k a hf => ?_, fun k m a ne hf => ?_, fun k t' o' q1' q2' => ?_⟩
  · split
    · exact inF
    · exact fun _ _ y => nomatch y
  · split at hf
    · exact q.out i a hf
    · exact absurd rfl hf
  · split at hf
    · rename_i c
      rw [if_neg (fun z => ne (c.trans z.symm))]; rfl
    · exact absurd rfl hf
  · by_cases e1 : k = j
    · subst e1
      rw [List.getElem?_set] at q1'
      simp only [if_true, List.length_set, List.length_replicate, ltj] at q1'
      cases q1'
      rw [at_j] at q2'; cases q2'
      exact ⟨w, rfl, rj⟩
    · rw [List.getElem?_set_ne (Ne.symm e1)] at q1'
      by_cases e2 : k = i
      · subst e2
        rw [if_pos rfl]
        rw [List.getElem?_set] at q1'
        simp only [if_true, List.length_replicate, lti] at q1'
        cases q1'
        rw [at_i] at q2'; cases q2'
        exact ⟨v, rfl, hs⟩
      · rw [List.getElem?_set_ne (Ne.symm e2)] at q1'
        have : t' = .no := by
          obtain ⟨hlt, e⟩ := List.getElem?_eq_some_iff.mp q1'
          simp at e
          exact e.symm
        subst this
        trivial
end
end PL

/-! M1: what the small defs compute, in plain Lean; what each def is handed and hands back. -/
namespace PL
open PySem L2

/-! ### the stones' test -/
def isWhole : D → Bool
  | .int _ => true
  | _ => false
def inRange : D → Bool
  | .int i => decide (0 ≤ i) && decide (i ≤ 999999)
  | _ => false
def isStone : D → Bool
  | .tuple ds => decide (ds.length = 2) && ds.all inRange
  | _ => false
def isStones : D → Bool
  | .list ds => decide (ds.length ≤ 60) && ds.all isStone
  | _ => false
theorem isStone_st {s : Int × Int} (h : okN s.1 ∧ okN s.2) : isStone (stD s) = true := by
  obtain ⟨⟨h1, h2⟩, h3, h4⟩ := h
  simp [isStone, stD, inRange, h1, h2, h3, h4]
theorem isStones_of {ss : List (Int × Int)} (h : OkS ss) : isStones (stonesD ss) = true := by
  show (decide ((ss.map stD).length ≤ 60) && (ss.map stD).all isStone) = true
  rw [List.length_map, decide_eq_true h.len, Bool.true_and, List.all_map]
  exact List.all_eq_true.mpr fun s hs => isStone_st (h.mem s hs)
def R_is_whole (as : List Sl) (d : D) : Prop := ∃ x, as = [.d x] ∧ d = .bool (isWhole x)
def R_is_stone (as : List Sl) (d : D) : Prop := ∃ x, as = [.d x] ∧ (∀ ds, x = .tuple ds → ds.length ≤ 1000) ∧ d = .bool (isStone x)
def R_need_stones (as : List Sl) (d : D) : Prop := ∃ x, as = [.d x] ∧ isStones x = true ∧ d = .none
def sp_is_whole (K : PySem.W.Frag) : Sp := spR K R_is_whole
def sp_is_stone (K : PySem.W.Frag) : Sp := spR K R_is_stone
def sp_need_stones (K : PySem.W.Frag) : Sp := spR K R_need_stones

/-! ### cells -/
def cell0 (ns : List Int) (k : Int) : Int := if ns = [] then 7919 * k + 11 else ns.getD (k % (ns.length : Int)).toNat 0 * 48271 + 104729 * k + k / (ns.length : Int) * 7919
def cellA (ns : List Int) (k : Int) : Int := cell0 ns k % 2147483647
def cellB (ns : List Int) (k : Int) : Int := cellA ns k * cellA ns k % 2147483629
def cellF (ns : List Int) (k : Int) : Int := (cellB ns k * cellB ns k + 69621 * cellB ns k + k) % 2147483587
theorem cellA_b (ns : List Int) (k : Int) : 0 ≤ cellA ns k ∧ cellA ns k < 2147483647 := ⟨Int.emod_nonneg _ (by decide), Int.emod_lt_of_pos _ (by decide)⟩
theorem cellB_b (ns : List Int) (k : Int) : 0 ≤ cellB ns k ∧ cellB ns k < 2147483629 := ⟨Int.emod_nonneg _ (by decide), Int.emod_lt_of_pos _ (by decide)⟩
theorem cellF_b (ns : List Int) (k : Int) : 0 ≤ cellF ns k ∧ cellF ns k < 2147483587 := ⟨Int.emod_nonneg _ (by decide), Int.emod_lt_of_pos _ (by decide)⟩
def R_cell (as : List Sl) (d : D) : Prop := ∃ ns k, as = [.s ns, .d (.int k)] ∧ ns.length ≤ 63 ∧ d = .int (cellF ns k)
def sp_cell (K : PySem.W.Frag) : Sp := spR K R_cell

/-! ### drawn stones -/
abbrev kindF (ns : List Int) : Int := cellF ns 1
def manyF (ns : List Int) : Nat := (max (min (ns.length : Int) 60) (kindF ns / 4 % 16)).toNat
def mostL : List Int := [3, 6, 14, 1000000]
def mostF (ns : List Int) (k : Nat) : Int := mostL.getD ((kindF ns % 4 + cellF ns (10 + (k : Int)) / 1000 % 9 / 8) % 4).toNat 0
def stoneA (ns : List Int) (k : Nat) : Int := cellF ns (10 + (k : Int)) / 7 % mostF ns k
def stoneB (ns : List Int) (k : Nat) : Int := cellF ns (100 + (k : Int)) / 5 % mostF ns k
def stoneF (ns : List Int) (k : Nat) : Int × Int := if cellF ns (10 + (k : Int)) % 23 = 1 then (stoneA ns k, stoneA ns k) else (stoneA ns k, stoneB ns k)
def stonesF (ns : List Int) : List (Int × Int) := (List.range (manyF ns)).map (stoneF ns)
theorem many_b {ns : List Int} : manyF ns ≤ 60 := by
  unfold manyF
  have h1 := (cellF_b ns 1).1
  have h2 : kindF ns / 4 % 16 < 16 := Int.emod_lt_of_pos _ (by decide)
  omega
theorem most_ix (ns : List Int) (k : Nat) : ∃ j : Nat, (kindF ns % 4 + cellF ns (10 + (k : Int)) / 1000 % 9 / 8) % 4 = (j : Int) ∧ j < 4 := by
  have h1 : 0 ≤ (kindF ns % 4 + cellF ns (10 + (k : Int)) / 1000 % 9 / 8) % 4 := Int.emod_nonneg _ (by decide)
  have h2 : (kindF ns % 4 + cellF ns (10 + (k : Int)) / 1000 % 9 / 8) % 4 < 4 := Int.emod_lt_of_pos _ (by decide)
  exact ⟨_, (Int.toNat_of_nonneg h1).symm, by omega⟩
theorem mostL_get {j : Nat} (h : j < 4) : mostL[j]? = some (mostL.getD j 0) ∧ 3 ≤ mostL.getD j 0 ∧ mostL.getD j 0 ≤ 1000000 := by
  match j, h with
  | 0, _ => exact ⟨rfl, by decide, by decide⟩
  | 1, _ => exact ⟨rfl, by decide, by decide⟩
  | 2, _ => exact ⟨rfl, by decide, by decide⟩
  | 3, _ => exact ⟨rfl, by decide, by decide⟩
theorem most_b (ns : List Int) (k : Nat) : 3 ≤ mostF ns k ∧ mostF ns k ≤ 1000000 := by
  obtain ⟨j, e, hj⟩ := most_ix ns k
  unfold mostF
  rw [e, Int.toNat_natCast]
  exact (mostL_get hj).2
theorem stoneA_b (ns : List Int) (k : Nat) : okN (stoneA ns k) := by
  have h := most_b ns k
  have h1 : 0 ≤ stoneA ns k := Int.emod_nonneg _ (by omega)
  have h2 : stoneA ns k < mostF ns k := Int.emod_lt_of_pos _ (by omega)
  exact ⟨h1, by omega⟩
theorem stoneB_b (ns : List Int) (k : Nat) : okN (stoneB ns k) := by
  have h := most_b ns k
  have h1 : 0 ≤ stoneB ns k := Int.emod_nonneg _ (by omega)
  have h2 : stoneB ns k < mostF ns k := Int.emod_lt_of_pos _ (by omega)
  exact ⟨h1, by omega⟩
theorem stonesF_len (ns : List Int) : (stonesF ns).length = manyF ns := by simp [stonesF]
theorem stonesF_ok (ns : List Int) : OkS (stonesF ns) where
  len := by rw [stonesF_len]; exact many_b
  mem := fun s hs => by
    obtain ⟨k, _, e⟩ := List.mem_map.mp hs
    subst e
    unfold stoneF
    split
    · exact ⟨stoneA_b ns k, stoneA_b ns k⟩
    · exact ⟨stoneA_b ns k, stoneB_b ns k⟩
def R_stones (as : List Sl) (d : D) : Prop := ∃ ns, as = [.s ns] ∧ ns.length ≤ 63 ∧ d = stonesD (stonesF ns)
def sp_stones (K : PySem.W.Frag) : Sp := spR K R_stones

/-! ### rising lists -/
def ins (x : Int) : List Int → List Int
  | [] => [x]
  | y :: l => if x ≤ y then x :: y :: l else y :: ins x l
def isort : List Int → List Int
  | [] => []
  | x :: l => ins x (isort l)
theorem ins_perm (x : Int) : ∀ l, (ins x l).Perm (x :: l)
  | [] => .refl _
  | y :: l => by
    unfold ins
    split
    · exact .refl _
    · exact ((ins_perm x l).cons y).trans (.swap x y l)
theorem isort_perm : ∀ l, (isort l).Perm l
  | [] => .refl _
  | x :: l => (ins_perm x _).trans ((isort_perm l).cons x)
theorem ins_rise (x : Int) : ∀ l, l.Pairwise (· ≤ ·) → (ins x l).Pairwise (· ≤ ·)
  | [], _ => List.pairwise_singleton _ _
  | y :: l, h => by
    obtain ⟨h1, h2⟩ := List.pairwise_cons.mp h
    unfold ins
    split
    · rename_i c
      refine List.pairwise_cons.mpr ⟨fun z hz => ?_, h⟩
      rcases List.mem_cons.mp hz with e | e
      · subst e; exact c
      · exact Int.le_trans c (h1 z e)
    · rename_i c
      refine List.pairwise_cons.mpr ⟨fun z hz => ?_, ins_rise x l h2⟩
      rcases List.mem_cons.mp ((ins_perm x l).mem_iff.mp hz) with e | e
      · subst e; omega
      · exact h1 z e
theorem isort_rise : ∀ l, (isort l).Pairwise (· ≤ ·)
  | [] => .nil
  | x :: l => ins_rise x _ (isort_rise l)
theorem rise_unique : ∀ {a b : List Int}, a.Perm b → a.Pairwise (· ≤ ·) → b.Pairwise (· ≤ ·) → a = b
  | [], b, p, _, _ => by have := p.length_eq; cases b with | nil => rfl | cons _ _ => simp at this
  | x :: a, [], p, _, _ => by have := p.length_eq; simp at this
  | x :: a, y :: b, p, h1, h2 => by
    obtain ⟨h3, h4⟩ := List.pairwise_cons.mp h1
    obtain ⟨h5, h6⟩ := List.pairwise_cons.mp h2
    have e : x = y := by
      have m1 : x ∈ y :: b := p.mem_iff.mp List.mem_cons_self
      have m2 : y ∈ x :: a := p.mem_iff.mpr List.mem_cons_self
      rcases List.mem_cons.mp m1 with e | e
      · exact e
      · rcases List.mem_cons.mp m2 with e2 | e2
        · exact e2.symm
        · have := h5 x e; have := h3 y e2; omega
    subst e
    rw [rise_unique (List.Perm.cons_inv p) h4 h6]
theorem isort_is {l m : List Int} (p : m.Perm l) (h : m.Pairwise (· ≤ ·)) : m = isort l := rise_unique (p.trans (isort_perm l).symm) h (isort_rise l)
theorem strict_nodup : ∀ {l : List Int}, l.Pairwise (· < ·) → l.Nodup := fun h => h.imp fun {a b} c e => by subst e; exact absurd c (Int.lt_irrefl _)
theorem strict_le {l : List Int} (h : l.Pairwise (· < ·)) : l.Pairwise (· ≤ ·) := h.imp fun c => Int.le_of_lt c
/-- the same members, none twice: the same but for the order -/
theorem perm_of_mem {α : Type} [DecidableEq α] {a b : List α} (ha : a.Nodup) (hb : b.Nodup) (h : ∀ x, x ∈ a ↔ x ∈ b) : a.Perm b := by
  rw [List.perm_iff_count]
  intro x
  by_cases m : x ∈ a
  · have m2 := (h x).mp m
    rw [ha.count, hb.count]
    simp [m, m2]
  · have m2 : ¬ x ∈ b := fun z => m ((h x).mpr z)
    rw [List.count_eq_zero_of_not_mem m, List.count_eq_zero_of_not_mem m2]
theorem strict_is {l m : List Int} (hl : l.Nodup) (h : m.Pairwise (· < ·)) (e : ∀ k, k ∈ m ↔ k ∈ l) : m = isort l := isort_is (perm_of_mem (strict_nodup h) hl e) (strict_le h)

/-! ### ends and their counts -/
def endsF (ss : List (Int × Int)) : List Int → List Int
  | [] => []
  | i :: g => let s := ss.getD i.toNat (0, 0); s.1 :: s.2 :: endsF ss g
/-- each number once, as first met -/
def dd (l : List Int) : List Int := l.foldl (fun acc n => if n ∈ acc then acc else acc ++ [n]) []
theorem dd_snoc (l : List Int) (n : Int) : dd (l ++ [n]) = if n ∈ dd l then dd l else dd l ++ [n] := by
  unfold dd
  rw [List.foldl_append]
  rfl
def ddA (acc l : List Int) : List Int := l.foldl (fun acc n => if n ∈ acc then acc else acc ++ [n]) acc
theorem ddA_mem : ∀ (l acc : List Int) (x : Int), x ∈ ddA acc l ↔ x ∈ acc ∨ x ∈ l
  | [], acc, x => by simp [ddA]
  | n :: l, acc, x => by
    show x ∈ ddA (if n ∈ acc then acc else acc ++ [n]) l ↔ _
    rw [ddA_mem l]
    split
    · rename_i h
      simp only [List.mem_cons]
      constructor
      · rintro (h1 | h1)
        · exact .inl h1
        · exact .inr (.inr h1)
      · rintro (h1 | rfl | h1)
        · exact .inl h1
        · exact .inl h
        · exact .inr h1
    · simp only [List.mem_append, List.mem_cons, List.not_mem_nil, or_false, or_assoc]
theorem ddA_nd : ∀ (l acc : List Int), acc.Nodup → (ddA acc l).Nodup
  | [], acc, h => h
  | n :: l, acc, h => by
    show (ddA (if n ∈ acc then acc else acc ++ [n]) l).Nodup
    split
    · exact ddA_nd l acc h
    · rename_i c
      refine ddA_nd l _ ?_
      rw [List.nodup_append]
      exact ⟨h, by simp, fun a ha b hb e => c (by simp at hb; rw [← hb, ← e]; exact ha)⟩
theorem dd_mem {l : List Int} {x : Int} : x ∈ dd l ↔ x ∈ l := by
  have := ddA_mem l [] x
  simpa [dd, ddA] using this
theorem dd_nd (l : List Int) : (dd l).Nodup := ddA_nd l [] .nil
theorem dd_len : ∀ (l : List Int), (dd l).length ≤ l.length := fun l => by
  have h : ∀ (l acc : List Int), (ddA acc l).length ≤ acc.length + l.length := by
    intro l
    induction l with
    | nil => intro acc; exact Nat.le_refl _
    | cons n l ih =>
      intro acc
      show (ddA (if n ∈ acc then acc else acc ++ [n]) l).length ≤ _
      have := ih (if n ∈ acc then acc else acc ++ [n])
      split at this
      · rename_i c; rw [if_pos c]; simp; omega
      · rename_i c; rw [if_neg c]; simp at this ⊢; omega
  have := h l []
  simpa [dd, ddA] using this
/-- the table of counts behind some ends -/
def tallyK (l : List Int) : List (Key × D) := (dd l).map fun n => (Sum.inl n, .int (l.count n : Nat))
theorem valD_map (f : Int → D) (n : Int) : ∀ l : List Int, valD (l.map fun k => ((Sum.inl k : Key), f k)) (.inl n) = if n ∈ l then some (f n) else none
  | [] => by simp [valD]
  | k :: l => by
    have ih := valD_map f n l
    by_cases e : k = n
    · subst e; simp [valD]
    · have e2 : ¬ (Sum.inl k : Key) = Sum.inl n := fun z => e (Sum.inl.inj z)
      have e3 : ¬ n = k := fun z => e z.symm
      simp only [valD, List.map_cons, List.find?_cons, decide_eq_false e2, List.mem_cons, e3, false_or] at ih ⊢
      exact ih
theorem tally_get (l : List Int) (n : Int) : (valD (tallyK l) (.inl n)).getD (.int 0) = .int (l.count n : Nat) := by
  unfold tallyK
  rw [valD_map (fun n => .int (l.count n : Nat))]
  split
  · rfl
  · rename_i h
    have : l.count n = 0 := List.count_eq_zero_of_not_mem fun z => h (dd_mem.mpr z)
    rw [this]; rfl
theorem tally_put (l : List Int) (n : Int) : putD (tallyK l) (.inl n) (.int ((l.count n : Nat) + 1)) = tallyK (l ++ [n]) := by
  have anyM : ∀ (m : List Int) (f : Int → D), ((m.map fun k => ((Sum.inl k : Key), f k)).any fun kv => decide (kv.1 = (Sum.inl n : Key))) = decide (n ∈ m) := by
    intro m f
    induction m with
    | nil => simp
    | cons k m ih =>
      rw [List.map_cons, List.any_cons, ih]
      by_cases e : k = n
      · subst e; simp
      · have e2 : ¬ (Sum.inl k : Key) = Sum.inl n := fun z => e (Sum.inl.inj z)
        have e3 : ¬ n = k := fun z => e z.symm
        simp [e3, e]
  unfold putD tallyK
  rw [anyM, dd_snoc]
  by_cases h : n ∈ dd l
  · rw [decide_eq_true h, if_pos rfl, if_pos h, List.map_map]
    refine List.map_congr_left fun k _ => ?_
    show (if (Sum.inl k : Key) = Sum.inl n then _ else _) = _
    by_cases e : k = n
    · subst e
      rw [if_pos rfl, List.count_append]
      simp
    · rw [if_neg fun z => e (Sum.inl.inj z), List.count_append]
      have : [n].count k = 0 := by simp [Ne.symm e]
      rw [this]; rfl
  · rw [decide_eq_false h, if_neg Bool.false_ne_true, if_neg h, List.map_append]
    have hn : n ∉ l := fun z => h (dd_mem.mpr z)
    congr 1
    · refine List.map_congr_left fun k hk => ?_
      have ne : n ≠ k := fun z => h (by rw [z]; exact hk)
      have : [n].count k = 0 := by simp [ne]
      rw [List.count_append, this]; rfl
    · rw [List.count_eq_zero_of_not_mem hn]
      simp [List.count_append, List.count_eq_zero_of_not_mem hn]
/-- the odd ends -/
def oddB (l : List Int) (n : Int) : Bool := decide ((l.count n : Int) % 2 = 1)
def oddF (ss : List (Int × Int)) (g : List Int) : List Int := isort ((dd (endsF ss g)).filter (oddB (endsF ss g)))
structure OkG (ss : List (Int × Int)) (g : List Int) : Prop where
  len : g.length ≤ 60
  mem : ∀ i ∈ g, 0 ≤ i ∧ i < (ss.length : Int)
theorem endsF_len (ss : List (Int × Int)) : ∀ g, (endsF ss g).length = 2 * g.length
  | [] => rfl
  | i :: g => by
    show (endsF ss g).length + 1 + 1 = _
    rw [endsF_len ss g, List.length_cons]; omega
theorem endsF_snoc (ss : List (Int × Int)) (i : Int) : ∀ g, endsF ss (g ++ [i]) = endsF ss g ++ [(ss.getD i.toNat (0, 0)).1, (ss.getD i.toNat (0, 0)).2]
  | [] => rfl
  | j :: g => by
    show _ :: _ :: endsF ss (g ++ [i]) = _
    rw [endsF_snoc ss i g]; rfl
def R_counted (as : List Sl) (kvs : List (Key × D)) : Prop := ∃ ss g, as = [.d (stonesD ss), .d (intsL g)] ∧ OkS ss ∧ OkG ss g ∧ kvs = tallyK (endsF ss g)
def sp_counted (K : PySem.W.Frag) : Sp := spK K R_counted
def R_odd (as : List Sl) (ds : List D) : Prop := ∃ ss g, as = [.d (stonesD ss), .d (intsL g)] ∧ OkS ss ∧ OkG ss g ∧ ds = (oddF ss g).map .int
def sp_odd_ends (K : PySem.W.Frag) : Sp := spF K R_odd
def sp_law_odd (K : PySem.W.Frag) : Sp := spF K R_odd
end PL

/-! R1: the small defs' readings. -/
namespace PL
open PySem L2
def t_is_whole (K : PySem.W.Frag) (w : World) : TS :=
    (tRet (tAndV (tCB (rIsi K) (tCons (tVar 0) (tCons (tC (.ty "int")) tNil))) (tNotV (tCB (rIsi K) (tCons (tVar 0) (tCons (tC (.ty "bool")) tNil))))))

def t_is_stone (K : PySem.W.Frag) (w : World) : TS :=
    (tSeq (tIfS (tOr (tNot (tB (tCB (rIsi K) (tCons (tVar 0) (tCons (tC (.ty "tuple")) tNil))))) (tTest (tOp (rNe) (tCB (cLen K) (tCons (tVar 0) tNil)) (tC (.int 2)))))
    (tRet (tC (.bl false)))
    tNext)
    (tRet (tCB (rAll K) (tCons (tLc (iTup K (tVar 0)) (gName 1) tYes (tAndV (tCall (sp_is_whole K) [] E0 (tCons (tVar 1) tNil)) (tChain (rI0 fun i j => .bl (decide (i ≤ j))) (rI0 fun i j => .bl (decide (i ≤ j))) (tC (.int 0)) (tVar 1) (tC (.int 999999)))) [1]) tNil))))

def t_need_stones (K : PySem.W.Frag) (w : World) : TS :=
    (tIfS (tOr (tNot (tB (tCB (rIsi K) (tCons (tVar 0) (tCons (tC (.ty "list")) tNil))))) (tOr (tTest (tOp (rI0 fun i j => .bl (decide (j < i))) (tCB (cLen K) (tCons (tVar 0) tNil)) (tC (.int 60)))) (tNot (tB (tCB (rAll K) (tCons (tLc (iList K (tVar 0)) (gName 1) tYes (tCall (sp_is_stone K) [] E0 (tCons (tVar 1) tNil)) [1]) tNil))))))
    tNever
    tNext)

def t_counted (K : PySem.W.Frag) (w : World) : TS :=
    (tSeq (tAsg tDNewK (gName 2))
    (tSeq (tFor (iList K (tVar 1)) (gName 3)
    (tFor (iTup K (tOp (rIxL K) (tVar 0) (tVar 3))) (gName 4)
    (sDPut (tVar 2) (tVar 4) (tOp (rI0 fun i j => .int (i + j)) (tDGet2 (tVar 2) (tVar 4) (tC (.int 0))) (tC (.int 1))))))
    (tRet (tVar 2))))

def t_odd_ends (K : PySem.W.Frag) (w : World) : TS :=
    (tSeq (tDrop (tCall (sp_need_stones K) [] E0 (tCons (tVar 0) tNil)))
    (tSeq (tAsg (tCall (sp_counted K) [] E0 (tCons (tVar 0) (tCons (tVar 1) tNil))) (gName 2))
    (tRet (tCB (rSortedI K) (tCons (tLockE (tLc (iKeys (tVar 2)) (gName 3) (tTest (tOp (rEq) (tOp (rI (fun _ j => 0 < j) fun i j => .int (i % j)) (tDGet (tVar 2) (tVar 3)) (tC (.int 2))) (tC (.int 1)))) (tVar 3) [3])) tNil)))))

def t_cell (K : PySem.W.Frag) (w : World) : TS :=
    (tSeq (tAsg (tOp (rI0 fun i j => .int (i + j)) (tOp (rI CMul fun i j => .int (i * j)) (tC (.int 7919)) (tVar 1)) (tC (.int 11))) (gName 2))
    (tSeq (tIfS (tTest (tOp (rNeD K) (tVar 0) (tLst tNil)))
    (tSeq (tAsg (tOp (rI CMul fun i j => .int (i * j)) (tOp (rIxL K) (tVar 0) (tOp (rI (fun _ j => 0 < j) fun i j => .int (i % j)) (tVar 1) (tCB (cLen K) (tCons (tVar 0) tNil)))) (tC (.int 48271))) (gName 2))
    (tAsg (tOp (rI0 fun i j => .int (i + j)) (tOp (rI0 fun i j => .int (i + j)) (tVar 2) (tOp (rI CMul fun i j => .int (i * j)) (tC (.int 104729)) (tVar 1))) (tOp (rI CMul fun i j => .int (i * j)) (tOp (rI CDiv fun i j => .int (i / j)) (tVar 1) (tCB (cLen K) (tCons (tVar 0) tNil))) (tC (.int 7919)))) (gName 2)))
    tNext)
    (tSeq (tAsg (tOp (rI (fun _ j => 0 < j) fun i j => .int (i % j)) (tVar 2) (tC (.int 2147483647))) (gName 3))
    (tSeq (tAsg (tOp (rI (fun _ j => 0 < j) fun i j => .int (i % j)) (tOp (rI CMul fun i j => .int (i * j)) (tVar 3) (tVar 3)) (tC (.int 2147483629))) (gName 3))
    (tRet (tOp (rI (fun _ j => 0 < j) fun i j => .int (i % j)) (tOp (rI0 fun i j => .int (i + j)) (tOp (rI0 fun i j => .int (i + j)) (tOp (rI CMul fun i j => .int (i * j)) (tVar 3) (tVar 3)) (tOp (rI CMul fun i j => .int (i * j)) (tC (.int 69621)) (tVar 3))) (tVar 1)) (tC (.int 2147483587))))))))

def t_stones (K : PySem.W.Frag) (w : World) : TS :=
    (tSeq (tAsg (tCall (sp_cell K) [] E0 (tCons (tVar 0) (tCons (tC (.int 1)) tNil))) (gName 1))
    (tSeq (tAsg (tLst tNil) (gName 2))
    (tSeq (tFor (iRng1 (tCons (tCB (cMax2) (tCons (tCB (cMin2) (tCons (tCB (cLen K) (tCons (tVar 0) tNil)) (tCons (tC (.int 60)) tNil))) (tCons (tOp (rI (fun _ j => 0 < j) fun i j => .int (i % j)) (tOp (rI CDiv fun i j => .int (i / j)) (tVar 1) (tC (.int 4))) (tC (.int 16))) tNil))) tNil)) (gName 3)
    (tSeq (tAsg (tCall (sp_cell K) [] E0 (tCons (tVar 0) (tCons (tOp (rI0 fun i j => .int (i + j)) (tC (.int 10)) (tVar 3)) tNil))) (gName 4))
    (tSeq (tAsg (tOp (rIxL K) (tLst (tCons (tC (.int 3)) (tCons (tC (.int 6)) (tCons (tC (.int 14)) (tCons (tC (.int 1000000)) tNil))))) (tOp (rI (fun _ j => 0 < j) fun i j => .int (i % j)) (tOp (rI0 fun i j => .int (i + j)) (tOp (rI (fun _ j => 0 < j) fun i j => .int (i % j)) (tVar 1) (tC (.int 4))) (tOp (rI CDiv fun i j => .int (i / j)) (tOp (rI (fun _ j => 0 < j) fun i j => .int (i % j)) (tOp (rI CDiv fun i j => .int (i / j)) (tVar 4) (tC (.int 1000))) (tC (.int 9))) (tC (.int 8)))) (tC (.int 4)))) (gName 5))
    (tSeq (tDrop (tBM K "list" rAppend (tVar 2) (tCons (tTup (tCons (tOp (rI (fun _ j => 0 < j) fun i j => .int (i % j)) (tOp (rI CDiv fun i j => .int (i / j)) (tVar 4) (tC (.int 7))) (tVar 5)) (tCons (tOp (rI (fun _ j => 0 < j) fun i j => .int (i % j)) (tOp (rI CDiv fun i j => .int (i / j)) (tCall (sp_cell K) [] E0 (tCons (tVar 0) (tCons (tOp (rI0 fun i j => .int (i + j)) (tC (.int 100)) (tVar 3)) tNil))) (tC (.int 5))) (tVar 5)) tNil))) tNil)))
    (tIfS (tTest (tOp (rEq) (tOp (rI (fun _ j => 0 < j) fun i j => .int (i % j)) (tVar 4) (tC (.int 23))) (tC (.int 1))))
    (tAsg (tTup (tCons (tOp (rIxT K) (tOp (rIxL K) (tVar 2) (tVar 3)) (tC (.int 0))) (tCons (tOp (rIxT K) (tOp (rIxL K) (tVar 2) (tVar 3)) (tC (.int 0))) tNil))) (gSub (tVar 2) (tVar 3) rSetL))
    tNext)))))
    (tRet (tVar 2)))))

def t_law_odd (K : PySem.W.Frag) (w : World) : TS :=
    (tSeq (tAsg (tLst tNil) (gName 2))
    (tSeq (tFor (iList K (tVar 1)) (gName 3)
    (tAsg (tOp (rCat) (tVar 2) (tCB (cList K) (tCons (tOp (rIxL K) (tVar 0) (tVar 3)) tNil))) (gName 2)))
    (tRet (tCB (rSrtS w) (tCons (tCB (rSetOf K w) (tCons (tLc (iList K (tVar 2)) (gName 4) (tTest (tOp (rEq) (tOp (rI (fun _ j => 0 < j) fun i j => .int (i % j)) (tBM K "list" (rCntI K) (tVar 2) (tCons (tVar 4) tNil)) (tC (.int 2))) (tC (.int 1)))) (tVar 4) [4]) tNil)) tNil)))))


section
variable {E : Ent} {δ δ' : List Sl} {ta tb te tc : TE} {d x y : D} {w : World} {XE : XK}
theorem evc_is_whole (ha : Ev E ta δ x) : Ev E (tCall (sp_is_whole E.K) [] XE (tCons ta tNil)) δ (.bool (isWhole x)) := ev_call (ea_d ha ea_nil) ⟨x, rfl, rfl⟩
theorem evc_is_stone (ha : Ev E ta δ x) (h : ∀ ds, x = .tuple ds → ds.length ≤ 1000) : Ev E (tCall (sp_is_stone E.K) [] XE (tCons ta tNil)) δ (.bool (isStone x)) := ev_call (ea_d ha ea_nil) ⟨x, rfl, h, rfl⟩
theorem evc_need (ha : Ev E ta δ x) (h : isStones x = true) : Ev E (tCall (sp_need_stones E.K) [] XE (tCons ta tNil)) δ .none := ev_call (ea_d ha ea_nil) ⟨x, rfl, h, rfl⟩
theorem evc_cell {i : Nat} {ns : List Int} {k : Int} (h0 : δ[i]? = some (.s ns)) (hz : ns.length ≤ 63) (hb : Ev E tb δ (.int k)) : Ev E (tCall (sp_cell E.K) [] XE (tCons (tVar i) (tCons tb tNil))) δ (.int (cellF ns k)) := ev_call (ea_s h0 (ea_d hb ea_nil)) ⟨ns, k, rfl, hz, rfl⟩
theorem evc_stones {i : Nat} {ns : List Int} (h0 : δ[i]? = some (.s ns)) (hz : ns.length ≤ 63) : Ev E (tCall (sp_stones E.K) [] XE (tCons (tVar i) tNil)) δ (stonesD (stonesF ns)) := ev_call (ea_s h0 ea_nil) ⟨ns, rfl, hz, rfl⟩
theorem evk_counted {ss : List (Int × Int)} {g : List Int} (ha : Ev E ta δ (stonesD ss)) (hb : Ev E tb δ (intsL g)) (h1 : OkS ss) (h2 : OkG ss g) : EvK E (tCall (sp_counted E.K) [] XE (tCons ta (tCons tb tNil))) δ (tallyK (endsF ss g)) := evK_call (ea_d ha (ea_d hb ea_nil)) ⟨ss, g, rfl, h1, h2, rfl⟩
theorem evf_odd {ss : List (Int × Int)} {g : List Int} (ha : Ev E ta δ (stonesD ss)) (hb : Ev E tb δ (intsL g)) (h1 : OkS ss) (h2 : OkG ss g) : EvF E (tCall (sp_odd_ends E.K) [] XE (tCons ta (tCons tb tNil))) δ ((oddF ss g).map .int) := evF_call (ea_d ha (ea_d hb ea_nil)) ⟨ss, g, rfl, h1, h2, rfl⟩
theorem evf_law_odd {ss : List (Int × Int)} {g : List Int} (ha : Ev E ta δ (stonesD ss)) (hb : Ev E tb δ (intsL g)) (h1 : OkS ss) (h2 : OkG ss g) : EvF E (tCall (sp_law_odd E.K) [] XE (tCons ta (tCons tb tNil))) δ ((oddF ss g).map .int) := evF_call (ea_d ha (ea_d hb ea_nil)) ⟨ss, g, rfl, h1, h2, rfl⟩

/-! ### is_whole, is_stone, need_stones -/
theorem xs_is_whole (x : D) : Xs E (t_is_whole E.K w) (argSl [.d x] 0) fun o => o = .rt (.bool (isWhole x)) := by
  refine xs_ret (ev_andV (ev_isi_int (ev_var rfl)) fun e => ev_notV (ev_isi_bool (ev_var rfl))) ?_
  cases x <;> rfl
theorem xs_is_stone (x : D) (hz : ∀ ds, x = .tuple ds → ds.length ≤ 1000) : Xs E (t_is_stone E.K w) (argSl [.d x] 1) fun o => o = .rt (.bool (isStone x)) := by
  by_cases ht : isTupD x = true
  · obtain ⟨ds, rfl⟩ : ∃ ds, x = .tuple ds := by
      cases x
      case tuple ds => exact ⟨ds, rfl⟩
      all_goals cases ht
    have hz := hz ds rfl
    refine q_when (et_or (et_not (et_B (ev_isi_tuple (ev_var rfl)))) fun _ => et_test (ev_neI (ev_lenT (ev_var rfl)) ev_int)) (fun e => ?_) fun e => ?_
    · refine xs_ret ev_bl ?_
      show _ = _
      have e' : (!decide ((ds.length : Int) = 2)) = true := e
      have : ¬ ds.length = 2 := fun z => by rw [z] at e'; simp at e'
      simp [isStone, this]
    · have l2 : ds.length = 2 := by
        have e' : (!decide ((ds.length : Int) = 2)) = false := e
        simp only [Bool.not_eq_false', decide_eq_true_eq] at e'
        omega
      have key : EvF E (tLc (iTup E.K (tVar 0)) (gName 1) tYes (tAndV (tCall (sp_is_whole E.K) [] E0 (tCons (tVar 1) tNil)) (tChain (rI0 fun i j => .bl (decide (i ≤ j))) (rI0 fun i j => .bl (decide (i ≤ j))) (tC (.int 0)) (tVar 1) (tC (.int 999999)))) [1]) (argSl [.d (.tuple ds)] 1) (ds.map fun a => .bool (inRange a)) := by
        refine evF_map ds id (fun a => .bool (inRange a)) (EvI.c (by rw [List.map_id]; exact ei_tup (ev_var rfl))) (by omega) fun a _ => ⟨_, _, by simp, tg_name, ?_⟩
        refine Ev.is (d1 := .bool (isWhole a && inRange a)) (ev_andV (evc_is_whole (ev_var rfl)) fun e => ?_) (by cases a <;> simp [isWhole, inRange])
        match a, e with
        | .int i, _ => exact ev_chain (dx := .int 0) (dy := .int i) (dz := .int 999999) ev_int (ev_var rfl) op_bool (fun _ => ev_int) (fun _ => op_bool)
      have e2 : (ds.map fun a => (PyData.bool (inRange a))) = (ds.map inRange).map PyData.bool := by rw [List.map_map]; rfl
      rw [e2] at key
      refine xs_ret (ev_all key.ev) ?_
      show _ = _
      congr 2
      show (ds.map inRange).all id = (decide (ds.length = 2) && ds.all inRange)
      rw [List.all_map, decide_eq_true l2]
      rfl
  · have hf : isTupD x = false := by simpa using ht
    refine q_when (b := true) ((et_or (b := false) (et_not (et_B (ev_isi_tuple (ev_var rfl)))) fun z => ?_).is (by rw [hf]; rfl)) (fun _ => ?_) fun z => nomatch z
    · rw [hf] at z; cases z
    · refine xs_ret ev_bl ?_
      show _ = _
      have : isStone x = false := by
        cases x
        case tuple ds => cases hf
        all_goals rfl
      rw [this]
end
end PL

/-! R2: cells, drawn stones, counts. -/
namespace PL
open PySem L2
local macro_rules | `(tactic| walk_at "evf") => `(tactic| fail)
local macro_rules | `(tactic| walk_at "rf") => `(tactic| first | (with_reducible_and_instances rfl) | rfl)
local macro_rules | `(tactic| walk_at "sd") => `(tactic| first | decide | omega | assumption | exact Or.inl ⟨by omega, by omega⟩ | exact Or.inr ⟨by omega, by omega⟩ | exact ⟨by omega, by omega⟩ | (simp; done))
local macro_rules | `(tactic| walk_at "ev") => `(tactic| first
  | with_reducible exact ev_int
  | ((with_reducible refine ev_var ?_); walk_at "rf")
  | with_reducible exact ev_str
  | with_reducible exact ev_bl
  | with_reducible exact ev_non
  | walk_at "evf"
  | ((with_reducible refine ev_add ?_ ?_) <;> walk_at "ev")
  | ((with_reducible refine ev_sub ?_ ?_) <;> walk_at "ev")
  | ((with_reducible refine ev_mul ?_ ?_ ?_) <;> walk_at "ev")
  | ((with_reducible refine ev_mod ?_ ?_ ?_) <;> walk_at "ev")
  | ((with_reducible refine ev_fdiv ?_ ?_ ?_) <;> walk_at "ev")
  | ((with_reducible refine ev_lt ?_ ?_) <;> walk_at "ev")
  | ((with_reducible refine ev_le ?_ ?_) <;> walk_at "ev")
  | ((with_reducible refine ev_gt ?_ ?_) <;> walk_at "ev")
  | ((with_reducible refine ev_ge ?_ ?_) <;> walk_at "ev")
  | ((with_reducible refine ev_eqI ?_ ?_) <;> (walk_at "ev"; done))
  | ((with_reducible refine ev_neI ?_ ?_) <;> (walk_at "ev"; done))
  | ((with_reducible refine ev_eqS ?_ ?_) <;> (walk_at "ev"; done))
  | ((with_reducible refine ev_neS ?_ ?_) <;> (walk_at "ev"; done))
  | ((with_reducible refine ev_eqB ?_ ?_) <;> (walk_at "ev"; done))
  | ((with_reducible refine ev_neB ?_ ?_) <;> (walk_at "ev"; done))
  | ((with_reducible refine ev_ixT0 ?_); walk_at "ev"; done)
  | ((with_reducible refine ev_ixT1 ?_); walk_at "ev"; done)
  | ((with_reducible refine ev_st0 ?_); walk_at "ev"; done)
  | ((with_reducible refine ev_st1 ?_); walk_at "ev"; done)
  | ((with_reducible refine ev_lenL ?_); walk_at "ev"; done)
  | ((with_reducible refine ev_lenT ?_); walk_at "ev"; done)
  | ((with_reducible refine ev_lenO ?_); walk_at "rf")
  | ((with_reducible refine ev_lenSc ?_); walk_at "rf")
  | ((with_reducible refine ev_max2 ?_ ?_) <;> walk_at "ev")
  | ((with_reducible refine ev_min2 ?_ ?_) <;> walk_at "ev")
  | ((with_reducible refine ev_abs ?_); walk_at "ev")
  | ((with_reducible refine ev_neg ?_); walk_at "ev")
  | ((with_reducible refine ev_intB ?_); walk_at "ev"; done)
  | ((with_reducible refine et_test ?_); walk_at "ev")
  | ((with_reducible refine et_B ?_); walk_at "ev")
  | ((with_reducible refine et_not ?_); walk_at "ev")
  | ((with_reducible refine ev_notV ?_); walk_at "ev")
  | with_reducible exact ed_nil
  | ((with_reducible refine ed_cons ?_ ?_) <;> walk_at "ev")
  | with_reducible exact ea_nil
  | ((with_reducible refine ea_s ?_ ?_); (walk_at "rf"); walk_at "ev")
  | ((with_reducible refine ea_d ?_ ?_) <;> walk_at "ev")
  | ((with_reducible refine ev_tup ?_ ?_); (walk_at "ev"); (try walk_at "sd"))
  | ((with_reducible refine ev_lst ?_ ?_); (walk_at "ev"); (try walk_at "sd"))
  | ((with_reducible refine evF_lst ?_ ?_); (walk_at "ev"); (try walk_at "sd"))
  | walk_at "sd"
  | skip)
local macro_rules | `(tactic| walk_at "evf") => `(tactic| ((with_reducible refine evc_cell ?_ (by assumption) ?_); (walk_at "rf"); walk_at "ev"))
theorem eqv_nil {ds : List D} : PyData.eqv (.list ds) (.list []) = decide (ds = []) := by
  cases ds <;> simp [PyData.eqv, PyData.eqvAll]
section
variable {E : Ent} {δ δ' : List Sl} {ta tb te tc : TE} {d x y : D} {w : World}
theorem xs_need (x : D) (hx : isStones x = true) : Xs E (t_need_stones E.K w) (argSl [.d x] 1) fun o => o = .nx (argSl [.d x] 1) := by
  cases x
  case list ds =>
    have h0 : (decide (ds.length ≤ 60) && ds.all isStone) = true := hx
    rw [Bool.and_eq_true, decide_eq_true_eq] at h0
    have key : EvF E (tLc (iList E.K (tVar 0)) (gName 1) tYes (tCall (sp_is_stone E.K) [] E0 (tCons (tVar 1) tNil)) [1]) (argSl [.d (.list ds)] 1) (ds.map fun a => .bool (isStone a)) := by
      refine evF_map ds id (fun a => .bool (isStone a)) (EvI.c (by rw [List.map_id]; exact ei_list (ev_var rfl))) (by omega) fun a ha => ⟨_, _, by simp, tg_name, evc_is_stone (ev_var rfl) fun es e => ?_⟩
      have := List.all_eq_true.mp h0.2 a ha
      subst e
      have : (decide (es.length = 2) && es.all inRange) = true := this
      rw [Bool.and_eq_true, decide_eq_true_eq] at this
      omega
    have e2 : (ds.map fun a => (PyData.bool (isStone a))) = (ds.map isStone).map PyData.bool := by rw [List.map_map]; rfl
    rw [e2] at key
    have al : (ds.map isStone).all id = true := by rw [List.all_map]; exact h0.2
    refine xs_if (b := false) ((et_or (et_not (et_B (ev_isi_list (ev_var rfl)))) fun _ => et_or (et_test (ev_gt (ev_lenL (ev_var rfl)) ev_int)) fun _ => et_not (et_B (ev_all key.ev))).is ?_) (fun z => nomatch z) fun _ => xs_next rfl
    rw [al]
    have : ¬ (60 : Int) < (ds.length : Int) := by omega
    simp [this, isListD]
  all_goals cases hx
theorem xs_cell (ns : List Int) (k : Int) (hz : ns.length ≤ 63) : Xs E (t_cell E.K w) (argSl [.s ns, .d (.int k)] 2) fun o => o = .rt (.int (cellF ns k)) := by
  refine q_asg (d := .int (7919 * k + 11)) (by walk_at "ev") ?_
  -- from here on: the cell in slot 2
  have rest : ∀ c : Int, c = cell0 ns k → Xs E (tSeq (tAsg (tOp (rI (fun _ j => 0 < j) fun i j => .int (i % j)) (tVar 2) (tC (.int 2147483647))) (gName 3))
    (tSeq (tAsg (tOp (rI (fun _ j => 0 < j) fun i j => .int (i % j)) (tOp (rI CMul fun i j => .int (i * j)) (tVar 3) (tVar 3)) (tC (.int 2147483629))) (gName 3))
    (tRet (tOp (rI (fun _ j => 0 < j) fun i j => .int (i % j)) (tOp (rI0 fun i j => .int (i + j)) (tOp (rI0 fun i j => .int (i + j)) (tOp (rI CMul fun i j => .int (i * j)) (tVar 3) (tVar 3)) (tOp (rI CMul fun i j => .int (i * j)) (tC (.int 69621)) (tVar 3))) (tVar 1)) (tC (.int 2147483587)))))) [.s ns, .d (.int k), .d (.int c), .no] fun o => o = .rt (.int (cellF ns k)) := fun c hc => by
    subst hc
    have hA := cellA_b ns k
    have hB := cellB_b ns k
    refine q_asg (d := .int (cellA ns k)) (ev_mod (ev_var rfl) ev_int (by decide)) ?_
    refine q_asg (d := .int (cellB ns k)) (ev_mod (ev_mul (ev_var rfl) (ev_var rfl) (.inl ⟨by omega, by omega⟩)) ev_int (by decide)) ?_
    exact xs_ret (ev_mod (ev_add (ev_add (ev_mul (ev_var rfl) (ev_var rfl) (.inl ⟨by omega, by omega⟩)) (ev_mul ev_int (ev_var rfl) (.inl ⟨by decide, by decide⟩))) (ev_var rfl)) ev_int (by decide)) rfl
  refine xs_seq (xs_if (b := decide (ns ≠ [])) ?_ (fun e => ?_) fun e => ?_)
  · refine (et_test (ev_neSc (ns := ns) rfl (ev_lst ed_nil (by simp)) (shp_ints ns) shp_nil)).is ?_
    rw [eqv_nil]
    cases ns <;> simp
  · have hn : ns ≠ [] := by simpa using e
    have hp : 0 < ns.length := List.length_pos_iff.mpr hn
    obtain ⟨z, hz1, hz2⟩ := atI_mod (i := k) hn
    refine q_asg (d := .int (z * 48271)) (ev_mul (ev_ixS rfl (by walk_at "ev") hz1) ev_int (.inr ⟨by decide, by decide⟩)) ?_
    refine xs_asg (d := .int (z * 48271 + 104729 * k + k / (ns.length : Int) * 7919)) ?_ ?_
    · walk_at "ev"
    · refine rest _ ?_
      unfold cell0
      rw [if_neg hn, List.getD_eq_getElem?_getD, hz2]
      rfl
  · have hn : ns = [] := by simpa using e
    refine xs_next (rest _ ?_)
    unfold cell0
    rw [if_pos hn]
theorem xs_stones (ns : List Int) (hz : ns.length ≤ 63) : Xs E (t_stones E.K w) (argSl [.s ns] 5) fun o => o = .rt (stonesD (stonesF ns)) := by
  have hk := cellF_b ns 1
  refine q_asg (d := .int (kindF ns)) (by walk_at "ev") ?_
  refine q_asgF (evF_lst ed_nil (by decide)) ?_
  refine xs_seq (xs_for (ei_range1 (n := max (min (ns.length : Int) 60) (kindF ns / 4 % 16)) ?_ ?_) (fun i δ => ∃ s3 s4 s5, δ = [.s ns, .d (.int (kindF ns)), .ow ((List.range i).map fun k => stD (stoneF ns k)), s3, s4, s5]) ⟨_, _, _, rfl⟩ ?_ ?_)
  · walk_at "ev"
  · have h2 : kindF ns / 4 % 16 < 16 := Int.emod_lt_of_pos _ (by decide)
    have h3 : 0 ≤ kindF ns / 4 % 16 := Int.emod_nonneg _ (by decide)
    omega
  · rintro i x δ' hx ⟨s3, s4, s5, rfl⟩
    have hi : i < manyF ns := by
      have := (List.getElem?_eq_some_iff.mp hx).1
      rwa [intsD_len] at this
    have h60 := many_b (ns := ns)
    have hx' : (intsD 0 (manyF ns))[i]? = some x := hx
    rw [intsD_get hi, Option.some_inj] at hx'
    subst hx'
    refine ⟨_, _, tg_name, ?_⟩
    have e0 : (0 : Int) + (i : Int) = (i : Int) := Int.zero_add _
    rw [e0]
    have hc := cellF_b ns (10 + (i : Int))
    have hc2 := cellF_b ns (100 + (i : Int))
    have hm := most_b ns i
    obtain ⟨j, ej, hj⟩ := most_ix ns i
    have hmost : mostL[j]? = some (mostF ns i) := by
      rw [(mostL_get hj).1]
      unfold mostF
      rw [ej, Int.toNat_natCast]
    refine q_asg (d := .int (cellF ns (10 + (i : Int)))) (by walk_at "ev") ?_
    refine q_asg (d := .int (mostF ns i)) ?_ ?_
    · refine ev_ixL (xs := [.int 3, .int 6, .int 14, .int 1000000]) (i := (kindF ns % 4 + cellF ns (10 + (i : Int)) / 1000 % 9 / 8) % 4) (by walk_at "ev") ?_ ?_
      · walk_at "ev"
      · rw [ej]
        refine atI_nat ?_
        have := congrArg (Option.map PyData.int) hmost
        rw [← List.getElem?_map] at this
        exact this
    refine q_drop (evM_append (d := stD (stoneA ns i, stoneB ns i)) rfl ?_ ?_) ?_
    · refine ev_tup (ed_cons (ev_mod (ev_fdiv (ev_var rfl) ev_int ⟨by decide, by decide⟩) (ev_var rfl) (by omega)) (ed_cons (ev_mod (ev_fdiv (by walk_at "ev") ev_int ⟨by decide, by decide⟩) (ev_var rfl) (by omega)) ed_nil)) (by show 2 ≤ 100000; decide)
    · simp; omega
    have snoc : ((List.range (i + 1)).map fun k => stD (stoneF ns k)) = ((List.range i).map fun k => stD (stoneF ns k)) ++ [stD (stoneF ns i)] := by rw [List.range_succ, List.map_append]; rfl
    have len : ((List.range i).map fun k => stD (stoneF ns k)).length = i := by simp
    refine xs_if (b := decide (cellF ns (10 + (i : Int)) % 23 = 1)) (by walk_at "ev") (fun e => ?_) fun e => ?_
    · have e : cellF ns (10 + (i : Int)) % 23 = 1 := of_decide_eq_true e
      have get : atI (((List.range i).map fun k => stD (stoneF ns k)) ++ [stD (stoneA ns i, stoneB ns i)]) (i : Int) = some (stD (stoneA ns i, stoneB ns i)) := atI_nat (by rw [List.getElem?_append_right (by rw [len]; exact Nat.le_refl _), len]; simp)
      refine xs_setO (n := 2) (j := i) (i := (i : Int)) (d := stD (stoneA ns i, stoneA ns i)) rfl ?_ (ev_var rfl) rfl (by simp) ?_
      · exact ev_tup (ed_cons (ev_st0 (s := (stoneA ns i, stoneB ns i)) (ev_ixO rfl (ev_var rfl) get)) (ed_cons (ev_st0 (s := (stoneA ns i, stoneB ns i)) (ev_ixO rfl (ev_var rfl) get)) ed_nil)) (by show 2 ≤ 100000; decide)
      · have st : stoneF ns i = (stoneA ns i, stoneA ns i) := if_pos e
        have sett : (((List.range i).map fun k => stD (stoneF ns k)) ++ [stD (stoneA ns i, stoneB ns i)]).set i (stD (stoneA ns i, stoneA ns i)) = ((List.range i).map fun k => stD (stoneF ns k)) ++ [stD (stoneA ns i, stoneA ns i)] := by
          rw [List.set_append_right _ _ (by rw [len]; exact Nat.le_refl _), len]
          simp
        show ∃ s3 s4 s5, _ = _
        rw [snoc, st, ← sett]
        exact ⟨_, _, _, rfl⟩
    · have e : ¬ cellF ns (10 + (i : Int)) % 23 = 1 := of_decide_eq_false e
      have st : stoneF ns i = (stoneA ns i, stoneB ns i) := if_neg e
      refine xs_next ?_
      show ∃ s3 s4 s5, _ = _
      rw [snoc, st]
      exact ⟨_, _, _, rfl⟩
  · rintro δ' ⟨s3, s4, s5, rfl⟩
    rw [intsD_len]
    refine xs_share (i := 2) rfl (xs_ret (ev_var rfl) ?_)
    show _ = _
    congr 1
    unfold stonesD stonesF
    rw [List.map_map]
    rfl
/-! ### counts -/
theorem stD_get {ss : List (Int × Int)} {i : Int} (h : 0 ≤ i ∧ i < (ss.length : Int)) : atI (ss.map stD) i = some (stD (ss.getD i.toNat (0, 0))) := by
  have e : ((i.toNat : Nat) : Int) = i := Int.toNat_of_nonneg h.1
  have lt : i.toNat < ss.length := by omega
  have := atI_nat (xs := ss.map stD) (j := i.toNat) (v := stD (ss.getD i.toNat (0, 0))) (by
    rw [List.getElem?_map, List.getD_eq_getElem?_getD, List.getElem?_eq_getElem lt]; rfl)
  rwa [e] at this
theorem xs_counted (ss : List (Int × Int)) (g : List Int) (hs : OkS ss) (hg : OkG ss g) : Xs E (t_counted E.K w) (argSl [.d (stonesD ss), .d (intsL g)] 3) fun o => o = .rk (tallyK (endsF ss g)) := by
  refine q_asgK evK_new ?_
  refine xs_seq (xs_for (ei_list (ev_var rfl)) (fun i δ => ∃ s3 s4, δ = [.d (stonesD ss), .d (intsL g), .od (tallyK (endsF ss (g.take i))), s3, s4]) ⟨_, _, rfl⟩ ?_ ?_)
  · rintro i x δ' hx ⟨s3, s4, rfl⟩
    obtain ⟨n, hn, rfl⟩ : ∃ n, g[i]? = some n ∧ x = .int n := by
      rw [List.getElem?_map] at hx
      cases q : g[i]? with
      | none => rw [q] at hx; cases hx
      | some n => rw [q] at hx; exact ⟨n, rfl, (Option.some.inj hx).symm⟩
    have hi : i < g.length := (List.getElem?_eq_some_iff.mp hn).1
    have hm := hg.mem n (List.mem_of_getElem? hn)
    have tk : g.take (i + 1) = g.take i ++ [n] := by rw [List.take_succ, hn]; rfl
    refine ⟨_, _, tg_name, ?_⟩
    have el : ∀ (l : List Int), l.length ≤ 2 * i + 1 → ∀ (m : Int) (s3 s4 : Sl), Xs E (sDPut (tVar 2) (tVar 4) (tOp (rI0 fun i j => .int (i + j)) (tDGet2 (tVar 2) (tVar 4) (tC (.int 0))) (tC (.int 1)))) [.d (stonesD ss), .d (intsL g), .od (tallyK l), s3, .d (.int m)] fun o => o = .nx [.d (stonesD ss), .d (intsL g), .od (tallyK (l ++ [m])), s3, .d (.int m)] := fun l hl m s3 s4 => by
      refine xs_dput (n := 2) (k := .inl m) (d := .int ((l.count m : Nat) + 1)) rfl (ev_var rfl) ?_ ?_ ?_
      · refine ev_add (i := (l.count m : Nat)) (j := 1) ?_ ev_int
        refine Ev.is (ev_dget2 (n := 2) (k := .inl m) rfl (ev_var rfl) ev_int) (tally_get l m)
      · have := dd_len l
        have h60 := hg.len
        simp only [tallyK, List.length_map]
        omega
      · rw [tally_put]
        rfl
    have elen : (endsF ss (g.take i)).length = 2 * i := by
      rw [endsF_len, List.length_take]; omega
    refine xs_for (ei_tup (ev_ixL (ev_var rfl) (ev_var rfl) (stD_get hm))) (fun j δ => ∃ s4, δ = [.d (stonesD ss), .d (intsL g), .od (tallyK (endsF ss (g.take i) ++ [(ss.getD n.toNat (0, 0)).1, (ss.getD n.toNat (0, 0)).2].take j)), .d (.int n), s4]) ⟨s4, by rw [List.take_zero, List.append_nil]; rfl⟩ ?_ ?_
    · rintro j x δ' hx ⟨s4, rfl⟩
      match j, hx with
      | 0, hx =>
        cases hx
        refine ⟨_, _, tg_name, (el (endsF ss (g.take i) ++ []) (by simp [elen]) _ _ s4).imp ?_⟩
        rintro o rfl
        exact ⟨.d (.int (ss.getD n.toNat (0, 0)).1), by rw [List.append_nil]; rfl⟩
      | 1, hx =>
        cases hx
        refine ⟨_, _, tg_name, (el (endsF ss (g.take i) ++ [(ss.getD n.toNat (0, 0)).1]) (by simp [elen]) _ _ s4).imp ?_⟩
        rintro o rfl
        exact ⟨.d (.int (ss.getD n.toNat (0, 0)).2), by rw [List.append_assoc]; rfl⟩
      | j + 2, hx => simp at hx
    · rintro δ' ⟨s4, rfl⟩
      refine ⟨.d (.int n), s4, ?_⟩
      rw [tk, endsF_snoc]
      rfl
  · rintro δ' ⟨s3, s4, rfl⟩
    refine xs_retOd rfl ?_
    show _ = _
    rw [List.length_map, List.take_length]
end
end PL

/-! R3: odd ends, the law's counting, alike. -/
namespace PL
open PySem L2
local macro_rules | `(tactic| walk_at "evf") => `(tactic| fail)
local macro_rules | `(tactic| walk_at "rf") => `(tactic| first | (with_reducible_and_instances rfl) | rfl)
local macro_rules | `(tactic| walk_at "sd") => `(tactic| first | decide | omega | assumption | exact Or.inl ⟨by omega, by omega⟩ | exact Or.inr ⟨by omega, by omega⟩ | exact ⟨by omega, by omega⟩ | (simp; done))
local macro_rules | `(tactic| walk_at "ev") => `(tactic| first
  | with_reducible exact ev_int
  | ((with_reducible refine ev_var ?_); walk_at "rf")
  | with_reducible exact ev_str
  | with_reducible exact ev_bl
  | with_reducible exact ev_non
  | walk_at "evf"
  | ((with_reducible refine ev_add ?_ ?_) <;> walk_at "ev")
  | ((with_reducible refine ev_sub ?_ ?_) <;> walk_at "ev")
  | ((with_reducible refine ev_mul ?_ ?_ ?_) <;> walk_at "ev")
  | ((with_reducible refine ev_mod ?_ ?_ ?_) <;> walk_at "ev")
  | ((with_reducible refine ev_fdiv ?_ ?_ ?_) <;> walk_at "ev")
  | ((with_reducible refine ev_lt ?_ ?_) <;> walk_at "ev")
  | ((with_reducible refine ev_le ?_ ?_) <;> walk_at "ev")
  | ((with_reducible refine ev_gt ?_ ?_) <;> walk_at "ev")
  | ((with_reducible refine ev_ge ?_ ?_) <;> walk_at "ev")
  | ((with_reducible refine ev_eqI ?_ ?_) <;> (walk_at "ev"; done))
  | ((with_reducible refine ev_neI ?_ ?_) <;> (walk_at "ev"; done))
  | ((with_reducible refine ev_eqS ?_ ?_) <;> (walk_at "ev"; done))
  | ((with_reducible refine ev_neS ?_ ?_) <;> (walk_at "ev"; done))
  | ((with_reducible refine ev_eqB ?_ ?_) <;> (walk_at "ev"; done))
  | ((with_reducible refine ev_neB ?_ ?_) <;> (walk_at "ev"; done))
  | ((with_reducible refine ev_ixT0 ?_); walk_at "ev"; done)
  | ((with_reducible refine ev_ixT1 ?_); walk_at "ev"; done)
  | ((with_reducible refine ev_st0 ?_); walk_at "ev"; done)
  | ((with_reducible refine ev_st1 ?_); walk_at "ev"; done)
  | ((with_reducible refine ev_lenL ?_); walk_at "ev"; done)
  | ((with_reducible refine ev_lenT ?_); walk_at "ev"; done)
  | ((with_reducible refine ev_lenO ?_); walk_at "rf")
  | ((with_reducible refine ev_lenSc ?_); walk_at "rf")
  | ((with_reducible refine ev_max2 ?_ ?_) <;> walk_at "ev")
  | ((with_reducible refine ev_min2 ?_ ?_) <;> walk_at "ev")
  | ((with_reducible refine ev_abs ?_); walk_at "ev")
  | ((with_reducible refine ev_neg ?_); walk_at "ev")
  | ((with_reducible refine ev_intB ?_); walk_at "ev"; done)
  | ((with_reducible refine et_test ?_); walk_at "ev")
  | ((with_reducible refine et_B ?_); walk_at "ev")
  | ((with_reducible refine et_not ?_); walk_at "ev")
  | ((with_reducible refine ev_notV ?_); walk_at "ev")
  | with_reducible exact ed_nil
  | ((with_reducible refine ed_cons ?_ ?_) <;> walk_at "ev")
  | with_reducible exact ea_nil
  | ((with_reducible refine ea_s ?_ ?_); (walk_at "rf"); walk_at "ev")
  | ((with_reducible refine ea_d ?_ ?_) <;> walk_at "ev")
  | ((with_reducible refine ev_tup ?_ ?_); (walk_at "ev"); (try walk_at "sd"))
  | ((with_reducible refine ev_lst ?_ ?_); (walk_at "ev"); (try walk_at "sd"))
  | ((with_reducible refine evF_lst ?_ ?_); (walk_at "ev"); (try walk_at "sd"))
  | walk_at "sd"
  | skip)
def t_alike (K : PySem.W.Frag) (w : World) (rec : Sp) : TS :=
    (tSeq (tIfS (tB (tCB (rIsiT K) (tCons (tVar 1) (tCons (tTup (tCons (tC (.ty "tuple")) (tCons (tC (.ty "list")) tNil))) tNil))))
    (tSeq (tIfS (tOr (tTest (tOp (rNe) (tCB (rIsi K) (tCons (tVar 0) (tCons (tC (.ty "tuple")) tNil))) (tCB (rIsi K) (tCons (tVar 1) (tCons (tC (.ty "tuple")) tNil))))) (tTest (tOp (rNe) (tCB (rIsi K) (tCons (tVar 0) (tCons (tC (.ty "list")) tNil))) (tCB (rIsi K) (tCons (tVar 1) (tCons (tC (.ty "list")) tNil))))))
    (tRet (tC (.bl false)))
    tNext)
    (tRet (tAndV (tOp (rEq) (tCB (cLen K) (tCons (tVar 0) tNil)) (tCB (cLen K) (tCons (tVar 1) tNil))) (tCB (rAll K) (tCons (tLc (iRng1 (tCons (tCB (cLen K) (tCons (tVar 1) tNil)) tNil)) (gName 2) tYes (tCall rec [] E0 (tCons (tOp (rIx K) (tVar 0) (tVar 2)) (tCons (tOp (rIx K) (tVar 1) (tVar 2)) tNil))) [2]) tNil)))))
    tNext)
    (tRet (tAndV (tOp (rEq) (tCB (rIsi K) (tCons (tVar 0) (tCons (tC (.ty "bool")) tNil))) (tCB (rIsi K) (tCons (tVar 1) (tCons (tC (.ty "bool")) tNil)))) (tOp (rEqD K) (tVar 0) (tVar 1)))))



section
variable {E : Ent} {δ δ' : List Sl} {ta tb te tc : TE} {d x y : D} {w : World}
theorem xs_odd_ends (ss : List (Int × Int)) (g : List Int) (hs : OkS ss) (hg : OkG ss g) : Xs E (t_odd_ends E.K w) (argSl [.d (stonesD ss), .d (intsL g)] 2) fun o => o = .rl ((oddF ss g).map .int) := by
  refine q_drop (evc_need (ev_var rfl) (isStones_of hs)).m ?_
  refine q_asgK (evk_counted (ev_var rfl) (ev_var rfl) hs hg) ?_
  have key : EvF E (tLockE (tLc (iKeys (tVar 2)) (gName 3) (tTest (tOp (rEq) (tOp (rI (fun _ j => 0 < j) fun i j => .int (i % j)) (tDGet (tVar 2) (tVar 3)) (tC (.int 2))) (tC (.int 1)))) (tVar 3) [3])) [.d (stonesD ss), .d (intsL g), .od (tallyK (endsF ss g)), .no] (((dd (endsF ss g)).filter (oddB (endsF ss g))).map .int) := by
    refine evF_lock (i := 2) rfl ?_
    refine evF_lc (dd (endsF ss g)) .int (oddB (endsF ss g)) .int (?_ : EvIc E _ _ _) ?_ fun n hn => ⟨[3], _, by simp, tg_name, ?_, fun _ => ev_var rfl⟩
    · have h := ei_keys (E := E) (i := 2) (kvs := tallyK (endsF ss g)) (δ := [.d (stonesD ss), .d (intsL g), fz (tallyK (endsF ss g)), .no]) rfl
      have e : ((tallyK (endsF ss g)).map fun kv => kD kv.1) = (dd (endsF ss g)).map .int := by
        unfold tallyK
        rw [List.map_map]
        rfl
      rw [e] at h
      exact h
    · have h1 := dd_len (endsF ss g)
      have h2 := endsF_len ss g
      have h3 := hg.len
      omega
    · refine et_test (ev_eqI (ev_mod (i := ((endsF ss g).count n : Nat)) (ev_dgetFz (n := 2) (k := .inl n) rfl (ev_var rfl) ?_) ev_int (by decide)) ev_int)
      unfold tallyK
      rw [valD_map (fun k => .int ((endsF ss g).count k : Nat)), if_pos hn]
  exact xs_retF (evF_sorted key.ev fun ms p r => isort_is p r) rfl
theorem listSt {s : Int × Int} (h : Ev E ta δ (stD s)) : EvF E (tCB (cList E.K) (tCons ta tNil)) δ [.int s.1, .int s.2] := evF_listT h
theorem xs_law_odd (ss : List (Int × Int)) (g : List Int) (hs : OkS ss) (hg : OkG ss g) : Xs E (t_law_odd E.K w) (argSl [.d (stonesD ss), .d (intsL g)] 3) fun o => o = .rl ((oddF ss g).map .int) := by
  refine q_asg (ev_lst ed_nil (by decide)) ?_
  refine xs_seq (xs_for (ei_list (ev_var rfl)) (fun i δ => ∃ s3, δ = [.d (stonesD ss), .d (intsL g), .d (intsL (endsF ss (g.take i))), s3, .no]) ⟨_, rfl⟩ ?_ ?_)
  · rintro i x δ' hx ⟨s3, rfl⟩
    obtain ⟨n, hn, rfl⟩ : ∃ n, g[i]? = some n ∧ x = .int n := by
      rw [List.getElem?_map] at hx
      cases q : g[i]? with
      | none => rw [q] at hx; cases hx
      | some n => rw [q] at hx; exact ⟨n, rfl, (Option.some.inj hx).symm⟩
    have hi : i < g.length := (List.getElem?_eq_some_iff.mp hn).1
    have hm := hg.mem n (List.mem_of_getElem? hn)
    have h60 := hg.len
    have tk : g.take (i + 1) = g.take i ++ [n] := by rw [List.take_succ, hn]; rfl
    refine ⟨_, _, tg_name, xs_asg (EvF.ev (evF_cat (xs := (endsF ss (g.take i)).map .int) (ev_var rfl) (EvF.ev (listSt (ev_ixL (ev_var rfl) (ev_var rfl) (stD_get hm)))) ?_)) ?_⟩
    · simp only [List.length_map, endsF_len, List.length_take, List.length_cons, List.length_nil]
      omega
    · show ∃ s3, _ = _
      rw [tk, endsF_snoc]
      unfold intsL
      rw [List.map_append]
      exact ⟨_, rfl⟩
  · rintro δ' ⟨s3, rfl⟩
    rw [List.length_map, List.take_length]
    have h1 := endsF_len ss g
    have h3 := hg.len
    have key : EvF E (tLc (iList E.K (tVar 2)) (gName 4) (tTest (tOp (rEq) (tOp (rI (fun _ j => 0 < j) fun i j => .int (i % j)) (tBM E.K "list" (rCntI E.K) (tVar 2) (tCons (tVar 4) tNil)) (tC (.int 2))) (tC (.int 1)))) (tVar 4) [4]) [.d (stonesD ss), .d (intsL g), .d (intsL (endsF ss g)), s3, .no] (((endsF ss g).filter (oddB (endsF ss g))).map .int) :=
      evF_lc (endsF ss g) .int (oddB (endsF ss g)) .int (EvI.c (ei_list (ev_var rfl))) (by omega) fun n hn => ⟨[4], _, by simp, tg_name, et_test (ev_eqI (ev_mod (ev_count (ev_var rfl) (ev_var rfl)) ev_int (by decide)) ev_int), fun _ => ev_var rfl⟩
    refine xs_retF (evF_sortSet key.ev ?_ fun ms h k => ?_) rfl
    · have := List.length_filter_le (oddB (endsF ss g)) (endsF ss g)
      omega
    · refine strict_is ((dd_nd _).filter _) h fun n => ?_
      rw [k n, List.mem_filter, List.mem_filter, dd_mem]

/-! ### alike -/
theorem ev_ixAL {xs : List D} {i : Int} (ha : Ev E ta δ (.list xs)) (hb : Ev E tb δ (.int i)) (h : atI xs i = some d) : Ev E (tOp (rIx E.K) ta tb) δ d :=
  ev_op ha hb fun G H x y Q i' _ ⟨a, vs, e1, e2, r⟩ b k => by
    obtain ⟨v, q1, q2⟩ := r.atI h
    exact .inl ⟨a, vs, i, v, e1, b, sqL_of i' e2, q1, k v G H (Gr.refl i') q2⟩
theorem ev_ixAT {xs : List D} {i : Int} (ha : Ev E ta δ (.tuple xs)) (hb : Ev E tb δ (.int i)) (h : atI xs i = some d) : Ev E (tOp (rIx E.K) ta tb) δ d :=
  ev_op ha hb fun G H x y Q i' _ ⟨a, vs, e1, e2, r⟩ b k => by
    obtain ⟨v, q1, q2⟩ := r.atI h
    exact .inr (.inl ⟨a, vs, i, v, e1, b, sqT_of i' e2, q1, k v G H (Gr.refl i') q2⟩)
end
def okA : Nat → D → Bool
  | _, .none => true
  | _, .bool _ => true
  | _, .int _ => true
  | _, .str s => PyData.strOk s
  | n + 1, .list xs => decide (xs.length ≤ 1000) && xs.all (okA n)
  | n + 1, .tuple xs => decide (xs.length ≤ 1000) && xs.all (okA n)
  | _, _ => false
def R_alike (n : Nat) (as : List Sl) (d : D) : Prop := ∃ x, as = [.d x, .d x] ∧ okA n x = true ∧ d = .bool true
def spA (K : PySem.W.Frag) : Nat → Sp
  | 0 => fun _ _ _ _ => False
  | n + 1 => spR K (R_alike n)
section
variable {E : Ent} {δ δ' : List Sl} {ta tb te tc : TE} {d x y : D} {w : World} {XE : XK}
theorem xs_alike (n : Nat) (x : D) (h : okA n x = true) : Xs E (t_alike E.K w (spA E.K n)) (argSl [.d x, .d x] 1) fun o => o = .rt (.bool true) := by
  have scalar : SeqAt.shaped x = true → isTupD x = false → isListD x = false → Xs E (t_alike E.K w (spA E.K n)) (argSl [.d x, .d x] 1) fun o => o = .rt (.bool true) := fun sh h1 h2 => by
    refine q_when (b := false) ((et_B (ev_isi_tl (ev_var rfl))).is (by rw [h1, h2]; rfl)) (fun z => nomatch z) fun _ => ?_
    refine xs_ret (ev_andV (ev_eqB (ev_isi_bool (ev_var rfl)) (ev_isi_bool (ev_var rfl))) fun _ => ev_eqD (ev_var rfl) (ev_var rfl) sh sh) ?_
    show _ = _
    rw [SeqAt.eqv_refl x (shp_lay sh)]
    simp
  have seq : ∀ xs : List D, xs.length ≤ 1000 → (∀ m, n = m + 1 → ∀ z ∈ xs, okA m z = true) → (∃ m, n = m + 1) → (x = .list xs ∨ x = .tuple xs) → Xs E (t_alike E.K w (spA E.K n)) (argSl [.d x, .d x] 1) fun o => o = .rt (.bool true) := fun xs hz hm hn hx => by
    obtain ⟨m, rfl⟩ := hn
    have hm := hm m rfl
    have ht : (isTupD x || isListD x) = true := by rcases hx with rfl | rfl <;> rfl
    have lenE : ∀ δ : List Sl, ∀ i, δ[i]? = some (.d x) → Ev E (tCB (cLen E.K) (tCons (tVar i) tNil)) δ (.int (xs.length : Int)) := fun δ i h => by
      rcases hx with rfl | rfl
      · exact ev_lenL (ev_var h)
      · exact ev_lenT (ev_var h)
    have ixE : ∀ (δ : List Sl) i j, ∀ (k : Nat) z, δ[i]? = some (.d x) → δ[j]? = some (.d (.int (k : Int))) → xs[k]? = some z → Ev E (tOp (rIx E.K) (tVar i) (tVar j)) δ z := fun δ i j k z h h2 h3 => by
      rcases hx with rfl | rfl
      · exact ev_ixAL (ev_var h) (ev_var h2) (atI_nat h3)
      · exact ev_ixAT (ev_var h) (ev_var h2) (atI_nat h3)
    refine q_when (b := true) ((et_B (ev_isi_tl (ev_var rfl))).is ht) (fun _ => ?_) fun z => nomatch z
    refine q_when (b := false) ((et_or (et_test (ev_neB (ev_isi_tuple (ev_var rfl)) (ev_isi_tuple (ev_var rfl)))) fun _ => et_test (ev_neB (ev_isi_list (ev_var rfl)) (ev_isi_list (ev_var rfl)))).is (by simp)) (fun z => nomatch z) fun _ => ?_
    have key : EvF E (tLc (iRng1 (tCons (tCB (cLen E.K) (tCons (tVar 1) tNil)) tNil)) (gName 2) tYes (tCall (spA E.K (m + 1)) [] E0 (tCons (tOp (rIx E.K) (tVar 0) (tVar 2)) (tCons (tOp (rIx E.K) (tVar 1) (tVar 2)) tNil))) [2]) (argSl [.d x, .d x] 1) ((List.range xs.length).map fun _ => .bool true) := by
      have e1 : intsD 0 ((xs.length : Int)).toNat = (List.range xs.length).map fun (k : Nat) => .int (k : Int) := by
        unfold intsD
        rw [Int.toNat_natCast]
        exact List.map_congr_left fun k _ => by rw [Int.zero_add]
      have hi : EvI E (iRng1 (tCons (tCB (cLen E.K) (tCons (tVar 1) tNil)) tNil)) (argSl [.d x, .d x] 1) ((List.range xs.length).map fun (k : Nat) => .int (k : Int)) := by
        rw [← e1]
        exact ei_range1 (ed_cons (lenE _ 1 rfl) ed_nil) (by omega)
      refine evF_map (List.range xs.length) (fun (k : Nat) => .int (k : Int)) (fun _ => .bool true) hi.c (by rw [List.length_range]; omega) fun k hk => ⟨[2], _, by simp, tg_name, ?_⟩
      have lt : k < xs.length := List.mem_range.mp hk
      refine ev_call (R := R_alike m) (ea_d (ixE _ 0 2 k xs[k] rfl rfl (List.getElem?_eq_getElem lt)) (ea_d (ixE _ 1 2 k xs[k] rfl rfl (List.getElem?_eq_getElem lt)) ea_nil)) ⟨xs[k], rfl, hm _ (List.getElem_mem lt), rfl⟩
    have e2 : ((List.range xs.length).map fun _ => (PyData.bool true)) = ((List.range xs.length).map fun _ => true).map PyData.bool := by rw [List.map_map]; rfl
    rw [e2] at key
    refine xs_ret (ev_andV (ev_eqI (lenE _ 0 rfl) (lenE _ 1 rfl)) fun _ => ev_all key.ev) ?_
    have al : ((List.range xs.length).map fun _ => true).all id = true := by simp
    show _ = _
    rw [al]
    simp
  cases x with
  | none => exact scalar (by decide) rfl rfl
  | bool b => exact scalar (shp_of (by simp [PyData.canLay0]) (by simp [PyData.depth])) rfl rfl
  | int b => exact scalar (shp_of (by simp [PyData.canLay0]) (by simp [PyData.depth])) rfl rfl
  | str b =>
    have hb : PyData.strOk b = true := by cases n <;> exact h
    exact scalar (shp_of (by simp [PyData.canLay0, hb]) (by simp [PyData.depth])) rfl rfl
  | list xs =>
    cases n with
    | zero => cases h
    | succ m =>
      have h' : (decide (xs.length ≤ 1000) && xs.all (okA m)) = true := h
      rw [Bool.and_eq_true, decide_eq_true_eq] at h'
      exact seq xs h'.1 (fun k e z hz => by cases e; exact List.all_eq_true.mp h'.2 z hz) ⟨m, rfl⟩ (.inl rfl)
  | tuple xs =>
    cases n with
    | zero => cases h
    | succ m =>
      have h' : (decide (xs.length ≤ 1000) && xs.all (okA m)) = true := h
      rw [Bool.and_eq_true, decide_eq_true_eq] at h'
      exact seq xs h'.1 (fun k e z hz => by cases e; exact List.all_eq_true.mp h'.2 z hz) ⟨m, rfl⟩ (.inr rfl)
  | dict kvs => cases n <;> cases h
theorem evc_alike {n : Nat} (ha : Ev E ta δ x) (hb : Ev E tb δ x) (h : okA n x = true) : Ev E (tCall (spA E.K (n + 1)) [] XE (tCons ta (tCons tb tNil))) δ (.bool true) := ev_call (R := R_alike n) (ea_d ha (ea_d hb ea_nil)) ⟨x, rfl, h, rfl⟩
end
end PL

/-! M2: which stones hang together: what both ways of grouping come to. -/
namespace PL
open PySem L2

def stAt (ss : List (Int × Int)) (i : Int) : Int × Int := ss.getD i.toNat (0, 0)
/-- n stands at an end of the stone at i -/
def hasN (ss : List (Int × Int)) (i n : Int) : Prop := (stAt ss i).1 = n ∨ (stAt ss i).2 = n
def Share (ss : List (Int × Int)) (i j : Int) : Prop := ∃ n, hasN ss i n ∧ hasN ss j n
theorem Share.symm {ss : List (Int × Int)} {i j : Int} (h : Share ss i j) : Share ss j i := by
  obtain ⟨n, a, b⟩ := h
  exact ⟨n, b, a⟩
/-- S goes over from a stone to each that shares a number with it -/
def Goes (ss : List (Int × Int)) (k : Int) (S : Int → Prop) : Prop := ∀ i j, 0 ≤ i → i < k → 0 ≤ j → j < k → Share ss i j → S i → S j
structure IsCo (ss : List (Int × Int)) (k : Int) (gs : List (List Int)) : Prop where
  nd : ∀ g ∈ gs, g.Nodup
  ne : ∀ g ∈ gs, g ≠ []
  dj : gs.Pairwise fun a b => ∀ x, x ∈ a → ¬ x ∈ b
  cover : ∀ i, (∃ g ∈ gs, i ∈ g) ↔ 0 ≤ i ∧ i < k
  closed : ∀ g ∈ gs, ∀ i ∈ g, ∀ j, 0 ≤ j → j < k → Share ss i j → j ∈ g
  conn : ∀ g ∈ gs, ∀ S : Int → Prop, Goes ss k S → ∀ i ∈ g, ∀ j ∈ g, S i → S j
def hd (g : List Int) : Int := g.headD 0
structure IsGr (ss : List (Int × Int)) (k : Int) (gs : List (List Int)) : Prop where
  rise : ∀ g ∈ gs, g.Pairwise (· < ·)
  ne : ∀ g ∈ gs, g ≠ []
  heads : gs.Pairwise fun a b => hd a < hd b
  cover : ∀ i, (∃ g ∈ gs, i ∈ g) ↔ 0 ≤ i ∧ i < k
  closed : ∀ g ∈ gs, ∀ i ∈ g, ∀ j, 0 ≤ j → j < k → Share ss i j → j ∈ g
  conn : ∀ g ∈ gs, ∀ S : Int → Prop, Goes ss k S → ∀ i ∈ g, ∀ j ∈ g, S i → S j
theorem strict_unique {α : Type} [DecidableEq α] {R : α → α → Prop} (irr : ∀ a, ¬ R a a) (tr : ∀ a b c, R a b → R b c → R a c) : ∀ {a b : List α}, a.Pairwise R → b.Pairwise R → (∀ x, x ∈ a ↔ x ∈ b) → a = b
  | [], [], _, _, _ => rfl
  | [], y :: b, _, _, h => absurd ((h y).mpr List.mem_cons_self) (by simp)
  | x :: a, [], _, _, h => absurd ((h x).mp List.mem_cons_self) (by simp)
  | x :: a, y :: b, h1, h2, h => by
    obtain ⟨h3, h4⟩ := List.pairwise_cons.mp h1
    obtain ⟨h5, h6⟩ := List.pairwise_cons.mp h2
    have e : x = y := by
      rcases List.mem_cons.mp ((h x).mp List.mem_cons_self) with e | e
      · exact e
      · rcases List.mem_cons.mp ((h y).mpr List.mem_cons_self) with e2 | e2
        · exact e2.symm
        · exact absurd (tr _ _ _ (h5 x e) (h3 y e2)) (irr y)
    subst e
    rw [strict_unique irr tr h4 h6 fun z => ?_]
    constructor
    · intro hz
      rcases List.mem_cons.mp ((h z).mp (List.mem_cons_of_mem _ hz)) with e | e
      · subst e; exact absurd (h3 z hz) (irr z)
      · exact e
    · intro hz
      rcases List.mem_cons.mp ((h z).mpr (List.mem_cons_of_mem _ hz)) with e | e
      · subst e; exact absurd (h5 z hz) (irr z)
      · exact e
theorem rise_ext {a b : List Int} (h1 : a.Pairwise (· < ·)) (h2 : b.Pairwise (· < ·)) (h : ∀ x, x ∈ a ↔ x ∈ b) : a = b := strict_unique (fun a => Int.lt_irrefl a) (fun _ _ _ => Int.lt_trans) h1 h2 h
theorem hd_mem {g : List Int} (h : g ≠ []) : hd g ∈ g := by
  cases g with
  | nil => exact absurd rfl h
  | cons x g => exact List.mem_cons_self
theorem IsGr.goes {ss : List (Int × Int)} {k : Int} {gs : List (List Int)} (h : IsGr ss k gs) {g : List Int} (hg : g ∈ gs) : Goes ss k (· ∈ g) := fun i j _ _ h3 h4 sh hi => h.closed g hg i hi j h3 h4 sh
theorem IsGr.half {ss : List (Int × Int)} {k : Int} {a b : List (List Int)} (ha : IsGr ss k a) (hb : IsGr ss k b) {g : List Int} (hg : g ∈ a) : g ∈ b := by
  have h0 := hd_mem (ha.ne g hg)
  obtain ⟨g2, hg2, h2⟩ := (hb.cover (hd g)).mpr ((ha.cover (hd g)).mp ⟨g, hg, h0⟩)
  have e : g = g2 := rise_ext (ha.rise g hg) (hb.rise g2 hg2) fun x => ⟨fun hx => ha.conn g hg (· ∈ g2) (hb.goes hg2) (hd g) h0 x hx h2, fun hx => hb.conn g2 hg2 (· ∈ g) (ha.goes hg) (hd g) h2 x hx h0⟩
  rw [e]; exact hg2
theorem isGr_unique {ss : List (Int × Int)} {k : Int} {a b : List (List Int)} (ha : IsGr ss k a) (hb : IsGr ss k b) : a = b :=
  strict_unique (R := fun a b => hd a < hd b) (fun _ => Int.lt_irrefl _) (fun _ _ _ => Int.lt_trans) ha.heads hb.heads fun x => ⟨ha.half hb, hb.half ha⟩

/-! ### lists of lists by their first items -/
def insH (x : List Int) : List (List Int) → List (List Int)
  | [] => [x]
  | y :: l => if hd x < hd y then x :: y :: l else y :: insH x l
def hsort : List (List Int) → List (List Int)
  | [] => []
  | x :: l => insH x (hsort l)
theorem insH_perm (x : List Int) : ∀ l, (insH x l).Perm (x :: l)
  | [] => .refl _
  | y :: l => by
    unfold insH
    split
    · exact .refl _
    · exact ((insH_perm x l).cons y).trans (.swap x y l)
theorem hsort_perm : ∀ l, (hsort l).Perm l
  | [] => .refl _
  | x :: l => (insH_perm x _).trans ((hsort_perm l).cons x)
theorem insH_rise (x : List Int) : ∀ l, (∀ y ∈ l, hd x ≠ hd y) → l.Pairwise (fun a b => hd a < hd b) → (insH x l).Pairwise fun a b => hd a < hd b
  | [], _, _ => List.pairwise_singleton _ _
  | y :: l, n, h => by
    obtain ⟨h1, h2⟩ := List.pairwise_cons.mp h
    unfold insH
    split
    · rename_i c
      refine List.pairwise_cons.mpr ⟨fun z hz => ?_, h⟩
      rcases List.mem_cons.mp hz with e | e
      · subst e; exact c
      · exact Int.lt_trans c (h1 z e)
    · rename_i c
      refine List.pairwise_cons.mpr ⟨fun z hz => ?_, insH_rise x l (fun z hz => n z (List.mem_cons_of_mem _ hz)) h2⟩
      rcases List.mem_cons.mp ((insH_perm x l).mem_iff.mp hz) with e | e
      · subst e
        have := n y List.mem_cons_self
        omega
      · exact h1 z e
theorem hsort_rise : ∀ l, l.Pairwise (fun a b => hd a ≠ hd b) → (hsort l).Pairwise fun a b => hd a < hd b
  | [], _ => .nil
  | x :: l, h => by
    obtain ⟨h1, h2⟩ := List.pairwise_cons.mp h
    exact insH_rise x _ (fun y hy => h1 y ((hsort_perm l).mem_iff.mp hy)) (hsort_rise l h2)
theorem isort_nd {l : List Int} (h : l.Nodup) : (isort l).Pairwise (· < ·) := by
  have h1 := isort_rise l
  have h2 : (isort l).Nodup := (isort_perm l).nodup_iff.mpr h
  exact (List.Pairwise.and h1 h2).imp fun {a b} ⟨x, y⟩ => by omega
theorem isort_mem {l : List Int} {x : Int} : x ∈ isort l ↔ x ∈ l := (isort_perm l).mem_iff
theorem isort_ne {l : List Int} (h : l ≠ []) : isort l ≠ [] := fun e => by
  have := (isort_perm l).length_eq
  rw [e] at this
  exact h (List.length_eq_zero_iff.mp this.symm)
/-- the groups, in order -/
def ordG (gs : List (List Int)) : List (List Int) := hsort (gs.map isort)
theorem dj_heads {gs : List (List Int)} (ne : ∀ g ∈ gs, g ≠ []) (dj : gs.Pairwise fun a b => ∀ x, x ∈ a → ¬ x ∈ b) : (gs.map isort).Pairwise fun a b => hd a ≠ hd b := by
  rw [List.pairwise_map]
  refine List.Pairwise.imp_of_mem (fun {a b} ha hb h e => ?_) dj
  have h1 := isort_mem.mp (hd_mem (isort_ne (ne a ha)))
  have h2 := isort_mem.mp (hd_mem (isort_ne (ne b hb)))
  rw [e] at h1
  exact h _ h1 h2
theorem ord_is {ss : List (Int × Int)} {k : Int} {gs : List (List Int)} (h : IsCo ss k gs) : IsGr ss k (ordG gs) := by
  have mem : ∀ {g}, g ∈ ordG gs ↔ ∃ a ∈ gs, isort a = g := fun {g} => (hsort_perm _).mem_iff.trans List.mem_map
  refine ⟨fun g hg => ?_, fun g hg => ?_, hsort_rise _ (dj_heads h.ne h.dj), fun i => ?_, fun g hg i hi j h3 h4 sh => ?_, fun g hg S go i hi j hj => ?_⟩
  · obtain ⟨a, ha, rfl⟩ := mem.mp hg
    exact isort_nd (h.nd a ha)
  · obtain ⟨a, ha, rfl⟩ := mem.mp hg
    exact isort_ne (h.ne a ha)
  · rw [← h.cover i]
    constructor
    · rintro ⟨g, hg, hi⟩
      obtain ⟨a, ha, rfl⟩ := mem.mp hg
      exact ⟨a, ha, isort_mem.mp hi⟩
    · rintro ⟨a, ha, hi⟩
      exact ⟨isort a, mem.mpr ⟨a, ha, rfl⟩, isort_mem.mpr hi⟩
  · obtain ⟨a, ha, rfl⟩ := mem.mp hg
    exact isort_mem.mpr (h.closed a ha i (isort_mem.mp hi) j h3 h4 sh)
  · obtain ⟨a, ha, rfl⟩ := mem.mp hg
    exact h.conn a ha S go i (isort_mem.mp hi) j (isort_mem.mp hj)
/-- what sorted leaves of it -/
theorem ord_unique {gs : List (List Int)} (ne : ∀ g ∈ gs, g ≠ []) (dj : gs.Pairwise fun a b => ∀ x, x ∈ a → ¬ x ∈ b) (l : List (List Int)) (p : l.Perm (gs.map isort)) (h : l.Pairwise fun p q => HT.lexLt q p = false) : l = ordG gs := by
  have h0 := dj_heads ne dj
  have hl : l.Pairwise fun a b => hd a ≠ hd b := p.symm.pairwise h0 (fun {a b} z => Ne.symm z)
  have hn : ∀ a ∈ l, a ≠ [] := fun a ha => by
    obtain ⟨b, hb, rfl⟩ := List.mem_map.mp (p.mem_iff.mp ha)
    exact isort_ne (ne b hb)
  have hs : l.Pairwise fun a b => hd a < hd b := by
    refine List.Pairwise.imp_of_mem (fun {a b} ha hb z => ?_) (List.Pairwise.and h hl)
    obtain ⟨z1, z2⟩ := z
    cases a with
    | nil => exact absurd rfl (hn _ ha)
    | cons x a =>
      cases b with
      | nil => exact absurd rfl (hn _ hb)
      | cons y b =>
        rw [HT.lexLt_cons] at z1
        have ne : ¬ y = x := fun e => z2 e.symm
        rw [if_neg ne, decide_eq_false_iff_not] at z1
        show x < y
        omega
  exact strict_unique (R := fun a b => hd a < hd b) (fun _ => Int.lt_irrefl _) (fun _ _ _ => Int.lt_trans) hs (hsort_rise _ h0) fun x => p.mem_iff.trans (hsort_perm _).mem_iff.symm

/-! ### one stone more -/
abbrev Grp := List Int × List Int
def tchB (s : Int × Int) (g : Grp) : Bool := decide (s.1 ∈ g.2) || decide (s.2 ∈ g.2)
def jP (k : Int) (s : Int × Int) (found : List Grp) : List Int := ((found.filter (tchB s)).map Prod.fst).reverse.flatten ++ [k]
def jN (s : Int × Int) (found : List Grp) : List Int := (found.filter (tchB s)).foldl (fun a g => ddA a g.2) (ddA [] [s.1, s.2])
def joinF (found : List Grp) (k : Int) (s : Int × Int) : List Grp := found.filter (fun g => !tchB s g) ++ [(jP k s found, jN s found)]
theorem jP_mem {k : Int} {s : Int × Int} {found : List Grp} {i : Int} : i ∈ jP k s found ↔ i = k ∨ ∃ g ∈ found, tchB s g = true ∧ i ∈ g.1 := by
  unfold jP
  simp only [List.mem_append, List.mem_flatten, List.mem_reverse, List.mem_map, List.mem_filter, List.mem_singleton]
  constructor
  · rintro (⟨l, ⟨g, ⟨h1, h2⟩, rfl⟩, h3⟩ | h)
    · exact .inr ⟨g, h1, h2, h3⟩
    · exact .inl h
  · rintro (h | ⟨g, h1, h2, h3⟩)
    · exact .inr h
    · exact .inl ⟨_, ⟨g, ⟨h1, h2⟩, rfl⟩, h3⟩
theorem ddAs_mem {n : Int} : ∀ (l : List Grp) (a : List Int), n ∈ l.foldl (fun a g => ddA a g.2) a ↔ n ∈ a ∨ ∃ g ∈ l, n ∈ g.2
  | [], a => by simp
  | g :: l, a => by
    rw [List.foldl_cons, ddAs_mem l, ddA_mem]
    simp only [List.mem_cons, exists_eq_or_imp, or_assoc]
theorem jN_mem {s : Int × Int} {found : List Grp} {n : Int} : n ∈ jN s found ↔ (s.1 = n ∨ s.2 = n) ∨ ∃ g ∈ found, tchB s g = true ∧ n ∈ g.2 := by
  unfold jN
  rw [ddAs_mem, ddA_mem]
  simp only [List.mem_cons, List.not_mem_nil, or_false, false_or, List.mem_filter, and_assoc, eq_comm (a := n)]
def Nums (ss : List (Int × Int)) (found : List Grp) : Prop := ∀ g ∈ found, ∀ n, n ∈ g.2 ↔ ∃ i ∈ g.1, hasN ss i n
theorem dj_eq {α : Type} : ∀ {gs : List α} {f : α → List Int}, (gs.map f).Pairwise (fun a b => ∀ x, x ∈ a → ¬ x ∈ b) → ∀ {a b : α} {x : Int}, a ∈ gs → b ∈ gs → x ∈ f a → x ∈ f b → a = b
  | [], _, _, _, _, _, h, _, _, _ => absurd h (by simp)
  | g :: gs, f, h, a, b, x, ha, hb, h1, h2 => by
    rw [List.map_cons] at h
    obtain ⟨h3, h4⟩ := List.pairwise_cons.mp h
    rcases List.mem_cons.mp ha with e | e
    · rcases List.mem_cons.mp hb with e2 | e2
      · rw [e, e2]
      · subst e; exact absurd h2 (h3 (f b) (List.mem_map.mpr ⟨b, e2, rfl⟩) x h1)
    · rcases List.mem_cons.mp hb with e2 | e2
      · subst e2; exact absurd h1 (h3 (f a) (List.mem_map.mpr ⟨a, e, rfl⟩) x h2)
      · exact dj_eq h4 e e2 h1 h2
theorem joinF_nums {ss : List (Int × Int)} {found : List Grp} {k : Int} (hn : Nums ss found) : Nums ss (joinF found k (stAt ss k)) := by
  intro g hg n
  rcases List.mem_append.mp hg with h | h
  · exact hn g (List.mem_filter.mp h).1 n
  · rw [List.mem_singleton] at h
    subst h
    show n ∈ jN _ _ ↔ ∃ i ∈ jP _ _ _, _
    rw [jN_mem]
    constructor
    · rintro (h | ⟨g, h1, h2, h3⟩)
      · exact ⟨k, jP_mem.mpr (.inl rfl), h⟩
      · obtain ⟨i, h4, h5⟩ := (hn g h1 n).mp h3
        exact ⟨i, jP_mem.mpr (.inr ⟨g, h1, h2, h4⟩), h5⟩
    · rintro ⟨i, hi, h⟩
      rcases jP_mem.mp hi with e | ⟨g, h1, h2, h3⟩
      · subst e; exact .inl h
      · exact .inr ⟨g, h1, h2, (hn g h1 n).mpr ⟨i, h3, h⟩⟩
theorem tch_iff {ss : List (Int × Int)} {found : List Grp} {k : Int} (hn : Nums ss found) {g : Grp} (hg : g ∈ found) : tchB (stAt ss k) g = true ↔ ∃ i ∈ g.1, Share ss i k := by
  unfold tchB
  rw [Bool.or_eq_true, decide_eq_true_eq, decide_eq_true_eq, hn g hg, hn g hg]
  constructor
  · rintro (⟨i, h1, h2⟩ | ⟨i, h1, h2⟩)
    · exact ⟨i, h1, _, h2, .inl rfl⟩
    · exact ⟨i, h1, _, h2, .inr rfl⟩
  · rintro ⟨i, h1, n, h2, h3 | h3⟩
    · exact .inl ⟨i, h1, by rw [h3]; exact h2⟩
    · exact .inr ⟨i, h1, by rw [h3]; exact h2⟩
theorem joinF_co {ss : List (Int × Int)} {found : List Grp} {k : Int} (h0 : 0 ≤ k) (h : IsCo ss k (found.map Prod.fst)) (hn : Nums ss found) : IsCo ss (k + 1) ((joinF found k (stAt ss k)).map Prod.fst) := by
  have lt : ∀ {g : Grp} {i : Int}, g ∈ found → i ∈ g.1 → 0 ≤ i ∧ i < k := fun {g i} hg hi => (h.cover i).mp ⟨g.1, List.mem_map.mpr ⟨g, hg, rfl⟩, hi⟩
  have inF : ∀ {g : Grp}, g ∈ found → g.1 ∈ found.map Prod.fst := fun {g} hg => List.mem_map.mpr ⟨g, hg, rfl⟩
  have cov : ∀ {i : Int}, 0 ≤ i → i < k → ∃ g ∈ found, i ∈ g.1 := fun {i} h1 h2 => by
    obtain ⟨l, hl, hi⟩ := (h.cover i).mpr ⟨h1, h2⟩
    obtain ⟨g, hg, rfl⟩ := List.mem_map.mp hl
    exact ⟨g, hg, hi⟩
  have mem : ∀ {l : List Int}, l ∈ (joinF found k (stAt ss k)).map Prod.fst ↔ (∃ g ∈ found, tchB (stAt ss k) g = false ∧ g.1 = l) ∨ l = jP k (stAt ss k) found := fun {l} => by
    unfold joinF
    rw [List.map_append, List.mem_append, List.mem_map]
    constructor
    · rintro (⟨g, hg, e⟩ | hl)
      · obtain ⟨h1, h2⟩ := List.mem_filter.mp hg
        exact .inl ⟨g, h1, by simpa using h2, e⟩
      · exact .inr (by simpa using hl)
    · rintro (⟨g, h1, h2, e⟩ | e)
      · exact .inl ⟨g, List.mem_filter.mpr ⟨h1, by simp [h2]⟩, e⟩
      · exact .inr (by simp [e])
  have up : ∀ {S : Int → Prop}, Goes ss (k + 1) S → Goes ss k S := fun go i j h1 h2 h3 h4 => go i j h1 (by omega) h3 (by omega)
  refine ⟨fun l hl => ?_, fun l hl => ?_, ?_, fun i => ?_, fun l hl i hi j hj1 hj2 sh => ?_, fun l hl S go i hi j hj si => ?_⟩
  · rcases mem.mp hl with ⟨g, h1, h2, rfl⟩ | rfl
    · exact h.nd _ (inF h1)
    · unfold jP
      rw [List.nodup_append]
      refine ⟨?_, by simp, fun a ha b hb e => ?_⟩
      · unfold List.Nodup
        rw [List.pairwise_flatten]
        refine ⟨fun l hl => ?_, ?_⟩
        · obtain ⟨g, hg, rfl⟩ := List.mem_map.mp (List.mem_reverse.mp hl)
          exact h.nd _ (inF (List.mem_filter.mp hg).1)
        · rw [List.pairwise_reverse, List.pairwise_map]
          have q := (List.pairwise_map.mp h.dj).filter (tchB (stAt ss k))
          exact q.imp fun {a b} z x hx y hy e => by subst e; exact z x hy hx
      · obtain ⟨l, hl, hx⟩ := List.mem_flatten.mp ha
        obtain ⟨g, hg, rfl⟩ := List.mem_map.mp (List.mem_reverse.mp hl)
        have := lt (List.mem_filter.mp hg).1 hx
        rw [List.mem_singleton] at hb
        omega
  · rcases mem.mp hl with ⟨g, h1, h2, rfl⟩ | rfl
    · exact h.ne _ (inF h1)
    · unfold jP; simp
  · unfold joinF
    rw [List.map_append, List.pairwise_append]
    refine ⟨?_, by simp, fun l hl m hm x hx hy => ?_⟩
    · rw [List.pairwise_map]
      exact (List.pairwise_map.mp h.dj).filter _
    · obtain ⟨g, hg, rfl⟩ := List.mem_map.mp hl
      have hm : m = jP k (stAt ss k) found := by simpa using hm
      subst hm
      obtain ⟨h1, h2⟩ := List.mem_filter.mp hg
      rcases jP_mem.mp hy with e | ⟨g2, h3, h4, h5⟩
      · have := lt h1 hx; omega
      · have := dj_eq h.dj h1 h3 hx h5
        subst this
        rw [h4] at h2
        cases h2
  · constructor
    · rintro ⟨l, hl, hi⟩
      rcases mem.mp hl with ⟨g, h1, h2, rfl⟩ | rfl
      · have := lt h1 hi; omega
      · rcases jP_mem.mp hi with e | ⟨g, h1, h2, h3⟩
        · omega
        · have := lt h1 h3; omega
    · rintro ⟨h1, h2⟩
      by_cases e : i = k
      · exact ⟨_, mem.mpr (.inr rfl), jP_mem.mpr (.inl e)⟩
      · obtain ⟨g, hg, hi⟩ := cov h1 (by omega)
        cases ht : tchB (stAt ss k) g with
        | true => exact ⟨_, mem.mpr (.inr rfl), jP_mem.mpr (.inr ⟨g, hg, ht, hi⟩)⟩
        | false => exact ⟨g.1, mem.mpr (.inl ⟨g, hg, ht, rfl⟩), hi⟩
  · rcases mem.mp hl with ⟨g, h1, h2, rfl⟩ | rfl
    · by_cases e : j = k
      · subst e
        have := (tch_iff hn h1).mpr ⟨i, hi, sh⟩
        rw [this] at h2
        cases h2
      · exact h.closed _ (inF h1) i hi j hj1 (by omega) sh
    · by_cases e : j = k
      · exact jP_mem.mpr (.inl e)
      · rcases jP_mem.mp hi with e2 | ⟨g, h1, h2, h3⟩
        · subst e2
          obtain ⟨g, hg, hj⟩ := cov hj1 (by omega)
          exact jP_mem.mpr (.inr ⟨g, hg, (tch_iff hn hg).mpr ⟨j, hj, sh.symm⟩, hj⟩)
        · exact jP_mem.mpr (.inr ⟨g, h1, h2, h.closed _ (inF h1) i h3 j hj1 (by omega) sh⟩)
  · rcases mem.mp hl with ⟨g, h1, h2, rfl⟩ | rfl
    · exact h.conn _ (inF h1) S (up go) i hi j hj si
    · have toK : ∀ x, x ∈ jP k (stAt ss k) found → S x → S k := fun x hx sx => by
        rcases jP_mem.mp hx with e | ⟨g, h1, h2, h3⟩
        · subst e; exact sx
        · obtain ⟨y, hy, sh⟩ := (tch_iff hn h1).mp h2
          have ly := lt h1 hy
          exact go y k ly.1 (by omega) h0 (by omega) sh (h.conn _ (inF h1) S (up go) x h3 y hy sx)
      have ofK : ∀ x, x ∈ jP k (stAt ss k) found → S k → S x := fun x hx sk => by
        rcases jP_mem.mp hx with e | ⟨g, h1, h2, h3⟩
        · subst e; exact sk
        · obtain ⟨y, hy, sh⟩ := (tch_iff hn h1).mp h2
          have ly := lt h1 hy
          exact h.conn _ (inF h1) S (up go) y hy x h3 (go k y h0 (by omega) ly.1 (by omega) sh.symm sk)
      exact ofK j hj (toK i hi si)
/-- the groups behind the first m stones -/
def foundF (ss : List (Int × Int)) : Nat → List Grp
  | 0 => []
  | m + 1 => joinF (foundF ss m) (m : Int) (stAt ss (m : Int))
theorem found_ok (ss : List (Int × Int)) : ∀ m : Nat, IsCo ss (m : Int) ((foundF ss m).map Prod.fst) ∧ Nums ss (foundF ss m)
  | 0 => ⟨⟨fun _ h => absurd h (by simp [foundF]), fun _ h => absurd h (by simp [foundF]), by simp [foundF], fun i => by simp [foundF] <;> omega, fun _ h => absurd h (by simp [foundF]), fun _ h => absurd h (by simp [foundF])⟩, fun _ h => absurd h (by simp [foundF])⟩
  | m + 1 => by
    obtain ⟨h1, h2⟩ := found_ok ss m
    have e : ((m + 1 : Nat) : Int) = (m : Int) + 1 := by omega
    rw [e]
    exact ⟨joinF_co (by omega) h1 h2, joinF_nums h2⟩
def grpF (ss : List (Int × Int)) : List (List Int) := ordG ((foundF ss ss.length).map Prod.fst)
theorem grpF_is (ss : List (Int × Int)) : IsGr ss (ss.length : Int) (grpF ss) := ord_is (found_ok ss ss.length).1
theorem grpF_nil : grpF [] = [] := rfl
theorem grpF_55 : grpF [(5, 5)] = [[0]] := by decide
/-! sizes -/
def tot (f : Grp → Nat) (l : List Grp) : Nat := (l.map f).sum
theorem tot_filter (f : Grp → Nat) (p : Grp → Bool) : ∀ l : List Grp, tot f (l.filter p) + tot f (l.filter fun g => !p g) = tot f l
  | [] => rfl
  | g :: l => by
    have ih := tot_filter f p l
    unfold tot at ih ⊢
    cases h : p g <;> simp [h] <;> omega
theorem tot_le (f : Grp → Nat) (p : Grp → Bool) (l : List Grp) : tot f (l.filter p) ≤ tot f l := by
  have := tot_filter f p l; omega
theorem tot_mem (f : Grp → Nat) : ∀ {l : List Grp} {g : Grp}, g ∈ l → f g ≤ tot f l
  | x :: l, g, h => by
    rcases List.mem_cons.mp h with e | e
    · subst e; simp [tot]
    · have := tot_mem f e
      simp only [tot, List.map_cons, List.sum_cons] at this ⊢
      omega
theorem ddA_len : ∀ (l acc : List Int), (ddA acc l).length ≤ acc.length + l.length
  | [], acc => Nat.le_refl _
  | n :: l, acc => by
    show (ddA (if n ∈ acc then acc else acc ++ [n]) l).length ≤ _
    have := ddA_len l (if n ∈ acc then acc else acc ++ [n])
    split at this
    · rename_i c; rw [if_pos c]; simp; omega
    · rename_i c; rw [if_neg c]; simp at this ⊢; omega
theorem ddAs_len : ∀ (l : List Grp) (a : List Int), (l.foldl (fun a g => ddA a g.2) a).length ≤ a.length + tot (fun g => g.2.length) l
  | [], a => Nat.le_refl _
  | g :: l, a => by
    rw [List.foldl_cons]
    have h1 := ddAs_len l (ddA a g.2)
    have h2 := ddA_len g.2 a
    simp only [tot, List.map_cons, List.sum_cons] at h1 ⊢
    omega
theorem jN_len (s : Int × Int) (found : List Grp) : (jN s found).length ≤ 2 + tot (fun g => g.2.length) (found.filter (tchB s)) := by
  have h1 := ddAs_len (found.filter (tchB s)) (ddA [] [s.1, s.2])
  have h2 := ddA_len [s.1, s.2] []
  simp only [List.length_cons, List.length_nil] at h2
  unfold jN
  omega
theorem flat_len : ∀ l : List Grp, ((l.map Prod.fst).reverse.flatten).length = tot (fun g => g.1.length) l
  | [] => rfl
  | g :: l => by
    rw [List.map_cons, List.reverse_cons, List.flatten_append, List.length_append, flat_len l]
    simp [tot]; omega
theorem jP_len (k : Int) (s : Int × Int) (found : List Grp) : (jP k s found).length = 1 + tot (fun g => g.1.length) (found.filter (tchB s)) := by
  unfold jP
  rw [List.length_append, flat_len]
  simp; omega
structure Sz (m : Nat) (found : List Grp) : Prop where
  l : found.length ≤ m
  p : tot (fun g => g.1.length) found ≤ m
  n : tot (fun g => g.2.length) found ≤ 2 * m
theorem sz_join {m : Nat} {found : List Grp} (h : Sz m found) (k : Int) (s : Int × Int) : Sz (m + 1) (joinF found k s) := by
  have ap : ∀ (f : Grp → Nat) (a b : List Grp), tot f (a ++ b) = tot f a + tot f b := fun f a b => by simp [tot]
  have h1 := List.length_filter_le (fun g => !tchB s g) found
  have h2 := tot_filter (fun g => g.1.length) (tchB s) found
  have h3 := tot_filter (fun g => g.2.length) (tchB s) found
  have h4 := jN_len s found
  have h5 := jP_len k s found
  have a1 := h.l
  have a2 := h.p
  have a3 := h.n
  refine ⟨?_, ?_, ?_⟩
  · unfold joinF; simp; omega
  · unfold joinF; rw [ap]; simp only [tot, List.map_cons, List.map_nil, List.sum_cons, List.sum_nil] at *; omega
  · unfold joinF; rw [ap]; simp only [tot, List.map_cons, List.map_nil, List.sum_cons, List.sum_nil] at *; omega
theorem sz_found (ss : List (Int × Int)) : ∀ m, Sz m (foundF ss m)
  | 0 => ⟨Nat.le_refl _, Nat.le_refl _, Nat.le_refl _⟩
  | m + 1 => sz_join (sz_found ss m) _ _
end PL

/-! M3: the law's own walk from stone to stone, in plain Lean. -/
namespace PL
open PySem L2
structure LawI (ss : List (Int × Int)) (n : Int) (found : List (List Int)) (left : List Int) : Prop where
  lr : left.Pairwise (· < ·)
  rise : ∀ g ∈ found, g.Pairwise (· < ·)
  ne : ∀ g ∈ found, g ≠ []
  heads : found.Pairwise fun a b => hd a < hd b
  hl : ∀ g ∈ found, ∀ x ∈ left, hd g < x
  cover : ∀ i, ((∃ g ∈ found, i ∈ g) ∨ i ∈ left) ↔ 0 ≤ i ∧ i < n
  off : ∀ g ∈ found, ∀ x ∈ left, ¬ x ∈ g
  closed : ∀ g ∈ found, ∀ i ∈ g, ∀ j, 0 ≤ j → j < n → Share ss i j → j ∈ g
  conn : ∀ g ∈ found, ∀ S : Int → Prop, Goes ss n S → ∀ i ∈ g, ∀ j ∈ g, S i → S j
  len : found.length + left.length ≤ n.toNat
theorem LawI.done {ss : List (Int × Int)} {n : Int} {found : List (List Int)} (h : LawI ss n found []) : IsGr ss n found :=
  ⟨h.rise, h.ne, h.heads, fun i => by rw [← h.cover i]; simp, h.closed, h.conn⟩
structure InI (ss : List (Int × Int)) (n : Int) (x : Int) (l0 group left nums more : List Int) : Prop where
  gx : x ∈ group
  part : ∀ i, (i ∈ group ∨ i ∈ left) ↔ i ∈ x :: l0
  dj : ∀ i ∈ group, ¬ i ∈ left
  gnd : group.Nodup
  lr : left.Pairwise (· < ·)
  nm : ∀ m, m ∈ nums ↔ ∃ i ∈ group, hasN ss i m
  conn : ∀ S, Goes ss n S → ∀ i ∈ group, (S x ↔ S i)
  fin : more = [] → ∀ j ∈ left, ∀ m ∈ nums, ¬ hasN ss j m
  len : group.length + left.length = l0.length + 1
  nlen : nums.length = 2 * group.length
/-- does the stone at j show one of nums -/
def tnB (ss : List (Int × Int)) (nums : List Int) (j : Int) : Bool := decide ((stAt ss j).1 ∈ nums) || decide ((stAt ss j).2 ∈ nums)
theorem tnB_iff {ss : List (Int × Int)} {nums : List Int} {j : Int} : tnB ss nums j = true ↔ ∃ m ∈ nums, hasN ss j m := by
  unfold tnB
  rw [Bool.or_eq_true, decide_eq_true_eq, decide_eq_true_eq]
  constructor
  · rintro (h | h)
    · exact ⟨_, h, .inl rfl⟩
    · exact ⟨_, h, .inr rfl⟩
  · rintro ⟨m, h, e | e⟩
    · exact .inl (by rw [e]; exact h)
    · exact .inr (by rw [e]; exact h)
theorem ends_mem {ss : List (Int × Int)} {m : Int} : ∀ {g : List Int}, m ∈ endsF ss g ↔ ∃ i ∈ g, hasN ss i m
  | [] => by simp [endsF]
  | i :: g => by
    show m ∈ (ss.getD i.toNat (0, 0)).1 :: (ss.getD i.toNat (0, 0)).2 :: endsF ss g ↔ _
    rw [List.mem_cons, List.mem_cons, ends_mem]
    simp only [List.mem_cons, exists_eq_or_imp, hasN, stAt, or_assoc, eq_comm (a := m)]
def remL (left : List Int) : List Int → List Int
  | [] => left
  | x :: more => remL (left.erase x) more
theorem remL_snoc : ∀ (more left : List Int) (x : Int), remL left (more ++ [x]) = (remL left more).erase x
  | [], left, x => rfl
  | y :: more, left, x => remL_snoc more (left.erase y) x
theorem remL_ok : ∀ (more left : List Int), left.Pairwise (· < ·) → more.Nodup → (∀ x ∈ more, x ∈ left) → (remL left more).Pairwise (· < ·) ∧ (∀ i, i ∈ remL left more ↔ i ∈ left ∧ ¬ i ∈ more) ∧ (remL left more).length + more.length = left.length
  | [], left, h, _, _ => ⟨h, fun i => by simp [remL], rfl⟩
  | x :: more, left, h, nd, sub => by
    obtain ⟨n1, n2⟩ := List.nodup_cons.mp nd
    have ln := strict_nodup h
    obtain ⟨h1, h2, h3⟩ := remL_ok more (left.erase x) (h.sublist List.erase_sublist) n2 fun y hy => (ln.mem_erase_iff).mpr ⟨fun e => n1 (by rw [← e]; exact hy), sub y (List.mem_cons_of_mem _ hy)⟩
    have hx := sub x List.mem_cons_self
    have hp : 0 < left.length := List.length_pos_of_mem hx
    have hl := List.length_erase_of_mem hx
    refine ⟨h1, fun i => ?_, ?_⟩
    · show i ∈ remL (left.erase x) more ↔ _
      rw [h2, ln.mem_erase_iff, List.mem_cons]
      constructor
      · rintro ⟨⟨a, b⟩, c⟩
        exact ⟨b, fun z => z.elim a c⟩
      · rintro ⟨a, b⟩
        exact ⟨⟨fun z => b (.inl z), a⟩, fun z => b (.inr z)⟩
    · show (remL (left.erase x) more).length + _ = _
      rw [List.length_cons]; omega
theorem InI.start {ss : List (Int × Int)} {n x : Int} {l0 : List Int} {found : List (List Int)} (h : LawI ss n found (x :: l0)) : InI ss n x l0 [x] l0 [(stAt ss x).1, (stAt ss x).2] [0] := by
  obtain ⟨h1, h2⟩ := List.pairwise_cons.mp h.lr
  refine ⟨by simp, fun i => by simp, fun i hi z => ?_, by simp, h2, fun m => ?_, fun S go i hi => ?_, fun z => (nomatch z), by simp; omega, rfl⟩
  · rw [List.mem_singleton] at hi
    subst hi
    exact absurd (h1 i z) (Int.lt_irrefl _)
  · simp [hasN, eq_comm (a := m)]
  · rw [List.mem_singleton] at hi
    subst hi
    exact Iff.rfl
theorem InI.step {ss : List (Int × Int)} {n x : Int} {l0 group left nums more : List Int} (hv : ∀ i ∈ x :: l0, 0 ≤ i ∧ i < n) (h : InI ss n x l0 group left nums more) :
    InI ss n x l0 (group ++ left.filter (tnB ss nums)) (remL left (left.filter (tnB ss nums))) (nums ++ endsF ss (left.filter (tnB ss nums))) (left.filter (tnB ss nums)) := by
  have ln := strict_nodup h.lr
  have fm : ∀ {i}, i ∈ left.filter (tnB ss nums) ↔ i ∈ left ∧ tnB ss nums i = true := List.mem_filter
  have fs : ∀ i ∈ left.filter (tnB ss nums), i ∈ left := fun i hi => (fm.mp hi).1
  obtain ⟨r1, r2, r3⟩ := remL_ok (left.filter (tnB ss nums)) left h.lr (ln.filter _) fs
  refine ⟨List.mem_append_left _ h.gx, fun i => ?_, fun i hi z => ?_, ?_, r1, fun m => ?_, fun S go i hi => ?_, fun e j hj m hm hh => ?_, ?_, ?_⟩
  · rw [← h.part i, List.mem_append, r2, fm]
    constructor
    · rintro ((a | a) | a)
      · exact .inl a
      · exact .inr a.1
      · exact .inr a.1
    · rintro (a | a)
      · exact .inl (.inl a)
      · by_cases c : tnB ss nums i = true
        · exact .inl (.inr ⟨a, c⟩)
        · exact .inr ⟨a, fun z => c z.2⟩
  · rw [r2] at z
    rcases List.mem_append.mp hi with a | a
    · exact h.dj i a z.1
    · exact z.2 a
  · rw [List.nodup_append]
    exact ⟨h.gnd, ln.filter _, fun a ha b hb e => h.dj a ha (by rw [e]; exact fs b hb)⟩
  · rw [List.mem_append, h.nm, ends_mem]
    constructor
    · rintro (⟨i, a, b⟩ | ⟨i, a, b⟩)
      · exact ⟨i, List.mem_append_left _ a, b⟩
      · exact ⟨i, List.mem_append_right _ a, b⟩
    · rintro ⟨i, a, b⟩
      rcases List.mem_append.mp a with a | a
      · exact .inl ⟨i, a, b⟩
      · exact .inr ⟨i, a, b⟩
  · rcases List.mem_append.mp hi with a | a
    · exact h.conn S go i a
    · obtain ⟨a1, a2⟩ := fm.mp a
      obtain ⟨m, hm, hh⟩ := tnB_iff.mp a2
      obtain ⟨j, hj, hj2⟩ := (h.nm m).mp hm
      have vi := hv i ((h.part i).mp (.inr a1))
      have vj := hv j ((h.part j).mp (.inl hj))
      have sh : Share ss j i := ⟨m, hj2, hh⟩
      rw [h.conn S go j hj]
      exact ⟨go j i vj.1 vj.2 vi.1 vi.2 sh, go i j vi.1 vi.2 vj.1 vj.2 sh.symm⟩
  · rw [e] at hj hm
    have hj : j ∈ left := hj
    have hm : m ∈ nums := by simpa [endsF] using hm
    have : j ∈ left.filter (tnB ss nums) := fm.mpr ⟨hj, tnB_iff.mpr ⟨m, hm, hh⟩⟩
    rw [e] at this
    cases this
  · rw [List.length_append]
    have := h.len
    omega
  · rw [List.length_append, List.length_append, endsF_len]
    have := h.nlen
    omega
theorem InI.close {ss : List (Int × Int)} {n x : Int} {l0 group left nums : List Int} {found : List (List Int)} (h : LawI ss n found (x :: l0)) (i : InI ss n x l0 group left nums []) : LawI ss n (found ++ [isort group]) left := by
  have ap : ∀ {g}, g ∈ found ++ [isort group] ↔ g ∈ found ∨ g = isort group := fun {g} => by simp
  have hx : hd (isort group) = x := by
    have h1 : hd (isort group) ∈ group := isort_mem.mp (hd_mem (isort_ne fun e => by rw [e] at i; exact absurd i.gx (by simp)))
    obtain ⟨h2, _⟩ := List.pairwise_cons.mp h.lr
    have h3 : x ≤ hd (isort group) := by
      rcases List.mem_cons.mp ((i.part _).mp (.inl h1)) with e | e
      · omega
      · have := h2 _ e; omega
    have h4 : hd (isort group) ≤ x := by
      have r := isort_rise group
      have m := isort_mem.mpr i.gx
      cases q : isort group with
      | nil => rw [q] at m; cases m
      | cons y g =>
        rw [q] at r m
        rcases List.mem_cons.mp m with e | e
        · subst e; exact Int.le_refl _
        · exact (List.pairwise_cons.mp r).1 x e
    omega
  have sub : ∀ {j}, j ∈ left → j ∈ l0 ∨ j = x := fun {j} hj => (List.mem_cons.mp ((i.part j).mp (.inr hj))).symm
  have lx : ∀ {j}, j ∈ left → x < j := fun {j} hj => by
    rcases List.mem_cons.mp ((i.part j).mp (.inr hj)) with e | e
    · subst e; exact absurd hj (i.dj _ i.gx)
    · exact (List.pairwise_cons.mp h.lr).1 j e
  have v : ∀ {j}, j ∈ group ∨ j ∈ left → 0 ≤ j ∧ j < n := fun {j} hj => (h.cover j).mp (.inr ((i.part j).mp hj))
  refine ⟨i.lr, fun g hg => ?_, fun g hg => ?_, ?_, fun g hg y hy => ?_, fun j => ?_, fun g hg y hy z => ?_, fun g hg y hy j h3 h4 sh => ?_, fun g hg S go y hy j hj sy => ?_, ?_⟩
  · rcases ap.mp hg with e | e
    · exact h.rise g e
    · subst e; exact isort_nd i.gnd
  · rcases ap.mp hg with e | e
    · exact h.ne g e
    · subst e; exact isort_ne fun e => by rw [e] at i; exact absurd i.gx (by simp)
  · rw [List.pairwise_append]
    refine ⟨h.heads, List.pairwise_singleton _ _, fun a ha b hb => ?_⟩
    rw [List.mem_singleton] at hb
    subst hb
    rw [hx]
    exact h.hl a ha x List.mem_cons_self
  · rcases ap.mp hg with e | e
    · have a1 := h.hl g e x List.mem_cons_self
      have a2 := lx hy
      omega
    · subst e; rw [hx]; exact lx hy
  · rw [← h.cover j, ← i.part j]
    constructor
    · rintro (⟨g, hg, a⟩ | a)
      · rcases ap.mp hg with e | e
        · exact .inl ⟨g, e, a⟩
        · subst e; exact .inr (.inl (isort_mem.mp a))
      · exact .inr (.inr a)
    · rintro (⟨g, hg, a⟩ | a | a)
      · exact .inl ⟨g, ap.mpr (.inl hg), a⟩
      · exact .inl ⟨_, ap.mpr (.inr rfl), isort_mem.mpr a⟩
      · exact .inr a
  · rcases ap.mp hg with e | e
    · exact h.off g e y ((i.part y).mp (.inr hy)) z
    · subst e; exact i.dj y (isort_mem.mp z) hy
  · rcases ap.mp hg with e | e
    · exact h.closed g e y hy j h3 h4 sh
    · subst e
      have hy := isort_mem.mp hy
      refine isort_mem.mpr ?_
      rcases (h.cover j).mpr ⟨h3, h4⟩ with ⟨g, hg, hj⟩ | hj
      · have vy := v (.inl hy)
        have := h.closed g hg j hj y vy.1 vy.2 sh.symm
        exact absurd this (h.off g hg y ((i.part y).mp (.inl hy)))
      · rcases (i.part j).mpr hj with a | a
        · exact a
        · obtain ⟨m, m1, m2⟩ := sh
          exact absurd m2 (i.fin rfl j a m ((i.nm m).mpr ⟨y, hy, m1⟩))
  · rcases ap.mp hg with e | e
    · exact h.conn g e S go y hy j hj sy
    · subst e
      exact (i.conn S go j (isort_mem.mp hj)).mp ((i.conn S go y (isort_mem.mp hy)).mpr sy)
  · have := h.len
    have := i.len
    have : 0 < group.length := List.length_pos_of_mem i.gx
    simp only [List.length_append, List.length_cons, List.length_nil] at *
    omega
theorem lawI_start (ss : List (Int × Int)) (n : Nat) : LawI ss (n : Int) [] ((List.range n).map fun (k : Nat) => (k : Int)) := by
  refine ⟨?_, by simp, by simp, by simp, by simp, fun i => ?_, by simp, by simp, by simp, by simp⟩
  · rw [List.pairwise_map]
    exact List.pairwise_lt_range.imp fun h => by omega
  · simp only [List.not_mem_nil, false_and, exists_false, false_or, List.mem_map, List.mem_range]
    constructor
    · rintro ⟨k, hk, rfl⟩; omega
    · rintro ⟨a, b⟩; exact ⟨i.toNat, by omega, by omega⟩
end PL

/-! R4: readings of joined, groups and the law's own groups. -/
namespace PL
open PySem L2
def numsK (ns : List Int) : List (Key × D) := ns.map fun n => ((Sum.inl n : Key), PyData.bool true)
def grpD (g : Grp) : D := .tuple [intsL g.1, dictD (numsK g.2)]
def foundD (l : List Grp) : D := .list (l.map grpD)
def groupsD (gs : List (List Int)) : D := .list (gs.map intsL)
def R_joined (as : List Sl) (ds : List D) : Prop := ∃ found k s, as = [.d (foundD found), .d (.int k), .d (stD s)] ∧ Sz 60 found ∧ ds = (joinF found k s).map grpD
def sp_joined (K : PySem.W.Frag) : Sp := spF K R_joined
def R_groups (as : List Sl) (d : D) : Prop := ∃ ss, as = [.d (stonesD ss)] ∧ OkS ss ∧ d = groupsD (grpF ss)
def sp_groups (K : PySem.W.Frag) : Sp := spN K R_groups
def R_law_groups (as : List Sl) (ds : List D) : Prop := ∃ ss, as = [.d (stonesD ss)] ∧ OkS ss ∧ ds = (grpF ss).map intsL
def sp_law_groups (K : PySem.W.Frag) : Sp := spF K R_law_groups
local macro_rules | `(tactic| walk_at "evf") => `(tactic| fail)
local macro_rules | `(tactic| walk_at "rf") => `(tactic| first | (with_reducible_and_instances rfl) | rfl)
local macro_rules | `(tactic| walk_at "sd") => `(tactic| first | decide | omega | assumption | exact Or.inl ⟨by omega, by omega⟩ | exact Or.inr ⟨by omega, by omega⟩ | exact ⟨by omega, by omega⟩ | (simp; done))
local macro_rules | `(tactic| walk_at "ev") => `(tactic| first
  | with_reducible exact ev_int
  | ((with_reducible refine ev_var ?_); walk_at "rf")
  | with_reducible exact ev_str
  | with_reducible exact ev_bl
  | with_reducible exact ev_non
  | walk_at "evf"
  | ((with_reducible refine ev_add ?_ ?_) <;> walk_at "ev")
  | ((with_reducible refine ev_sub ?_ ?_) <;> walk_at "ev")
  | ((with_reducible refine ev_mul ?_ ?_ ?_) <;> walk_at "ev")
  | ((with_reducible refine ev_mod ?_ ?_ ?_) <;> walk_at "ev")
  | ((with_reducible refine ev_fdiv ?_ ?_ ?_) <;> walk_at "ev")
  | ((with_reducible refine ev_lt ?_ ?_) <;> walk_at "ev")
  | ((with_reducible refine ev_le ?_ ?_) <;> walk_at "ev")
  | ((with_reducible refine ev_gt ?_ ?_) <;> walk_at "ev")
  | ((with_reducible refine ev_ge ?_ ?_) <;> walk_at "ev")
  | ((with_reducible refine ev_eqI ?_ ?_) <;> (walk_at "ev"; done))
  | ((with_reducible refine ev_neI ?_ ?_) <;> (walk_at "ev"; done))
  | ((with_reducible refine ev_eqS ?_ ?_) <;> (walk_at "ev"; done))
  | ((with_reducible refine ev_neS ?_ ?_) <;> (walk_at "ev"; done))
  | ((with_reducible refine ev_eqB ?_ ?_) <;> (walk_at "ev"; done))
  | ((with_reducible refine ev_neB ?_ ?_) <;> (walk_at "ev"; done))
  | ((with_reducible refine ev_ixT0 ?_); walk_at "ev"; done)
  | ((with_reducible refine ev_ixT1 ?_); walk_at "ev"; done)
  | ((with_reducible refine ev_st0 ?_); walk_at "ev"; done)
  | ((with_reducible refine ev_st1 ?_); walk_at "ev"; done)
  | ((with_reducible refine ev_lenL ?_); walk_at "ev"; done)
  | ((with_reducible refine ev_lenT ?_); walk_at "ev"; done)
  | ((with_reducible refine ev_lenO ?_); walk_at "rf")
  | ((with_reducible refine ev_lenSc ?_); walk_at "rf")
  | ((with_reducible refine ev_max2 ?_ ?_) <;> walk_at "ev")
  | ((with_reducible refine ev_min2 ?_ ?_) <;> walk_at "ev")
  | ((with_reducible refine ev_abs ?_); walk_at "ev")
  | ((with_reducible refine ev_neg ?_); walk_at "ev")
  | ((with_reducible refine ev_intB ?_); walk_at "ev"; done)
  | ((with_reducible refine et_test ?_); walk_at "ev")
  | ((with_reducible refine et_B ?_); walk_at "ev")
  | ((with_reducible refine et_not ?_); walk_at "ev")
  | ((with_reducible refine ev_notV ?_); walk_at "ev")
  | with_reducible exact ed_nil
  | ((with_reducible refine ed_cons ?_ ?_) <;> walk_at "ev")
  | with_reducible exact ea_nil
  | ((with_reducible refine ea_s ?_ ?_); (walk_at "rf"); walk_at "ev")
  | ((with_reducible refine ea_d ?_ ?_) <;> walk_at "ev")
  | ((with_reducible refine ev_tup ?_ ?_); (walk_at "ev"); (try walk_at "sd"))
  | ((with_reducible refine ev_lst ?_ ?_); (walk_at "ev"); (try walk_at "sd"))
  | ((with_reducible refine evF_lst ?_ ?_); (walk_at "ev"); (try walk_at "sd"))
  | walk_at "sd"
  | skip)
def t_joined (K : PySem.W.Frag) (w : World) : TS :=
    (tSeq (tAsg (tLst (tCons (tVar 1) tNil)) (gName 3))
    (tSeq (tAsg (tDisp (((tOp (rIxT K) (tVar 2) (tC (.int 0))), (tC (.bl true))) :: (((tOp (rIxT K) (tVar 2) (tC (.int 1))), (tC (.bl true))) :: []))) (gName 4))
    (tSeq (tAsg (tLst tNil) (gName 5))
    (tSeq (tFor (iList K (tVar 0)) (gName 6)
    (tIfS (tOr (tB (tDIn (tOp (rIxT K) (tVar 2) (tC (.int 0))) (tOp (rIxT K) (tVar 6) (tC (.int 1))))) (tB (tDIn (tOp (rIxT K) (tVar 2) (tC (.int 1))) (tOp (rIxT K) (tVar 6) (tC (.int 1))))))
    (tSeq (tAsg (tOp (rCat) (tOp (rIxT K) (tVar 6) (tC (.int 0))) (tVar 3)) (gName 3))
    (tDrop (tDUpd K (tVar 4) (tOp (rIxT K) (tVar 6) (tC (.int 1))))))
    (tDrop (tBM K "list" rAppend (tVar 5) (tCons (tVar 6) tNil)))))
    (tRet (tOp (rCat) (tVar 5) (tLst (tCons (tTup (tCons (tVar 3) (tCons (tVar 4) tNil))) tNil))))))))

def t_groups (K : PySem.W.Frag) (w : World) : TS :=
    (tSeq (tDrop (tCall (sp_need_stones K) [] E0 (tCons (tVar 0) tNil)))
    (tSeq (tAsg (tLst tNil) (gName 1))
    (tSeq (tFor (iEnum K (tCons (tVar 0) tNil)) (gTup K 2 (gCons (gName 2) (gCons (gName 3) gNil)))
    (tAsg (tCall (sp_joined K) [] E0 (tCons (tVar 1) (tCons (tVar 2) (tCons (tVar 3) tNil)))) (gName 1)))
    (tRet (tCB (rSortedL K) (tCons (tLc (iList K (tVar 1)) (gTup K 2 (gCons (gName 4) (gCons (gName 5) gNil))) tYes (tCB (rSortedI K) (tCons (tVar 4) tNil)) [4, 5]) tNil))))))

def t_law_groups (K : PySem.W.Frag) (w : World) : TS :=
    (tSeq (tAsg (tLstRg (tRg1 (tCB (cLen K) (tCons (tVar 0) tNil)))) (gName 1))
    (tSeq (tAsg (tLst tNil) (gName 2))
    (tSeq (tWhile (tTest (tOp (rNeD K) (tVar 1) (tLst tNil)))
    (tSeq (tAsg (tLst (tCons (tBM K "list" rPopAt (tVar 1) (tCons (tC (.int 0)) tNil)) tNil)) (gName 3))
    (tSeq (tAsg (tCB (cList K) (tCons (tOp (rIxL K) (tVar 0) (tOp (rIxL K) (tVar 3) (tC (.int 0)))) tNil)) (gName 4))
    (tSeq (tAsg (tLst (tCons (tC (.int 0)) tNil)) (gName 5))
    (tSeq (tWhile (tTest (tOp (rNeD K) (tVar 5) (tLst tNil)))
    (tSeq (tAsg (tLc (iList K (tVar 1)) (gName 6) (tOr (tTest (tOp (rIn K false) (tOp (rIxT K) (tOp (rIxL K) (tVar 0) (tVar 6)) (tC (.int 0))) (tVar 4))) (tTest (tOp (rIn K false) (tOp (rIxT K) (tOp (rIxL K) (tVar 0) (tVar 6)) (tC (.int 1))) (tVar 4)))) (tVar 6) [6]) (gName 5))
    (tSeq (tFor (iList K (tVar 5)) (gName 6)
    (tSeq (tDrop (tBM K "list" rRemI (tVar 1) (tCons (tVar 6) tNil)))
    (tAsg (tOp (rCat) (tVar 4) (tCB (cList K) (tCons (tOp (rIxL K) (tVar 0) (tVar 6)) tNil))) (gName 4))))
    (tAsg (tOp (rCat) (tVar 3) (tVar 5)) (gName 3)))))
    (tDrop (tBM K "list" rAppend (tVar 2) (tCons (tCB (rSortedI K) (tCons (tVar 3) tNil)) tNil))))))))
    (tRet (tVar 2)))))



section
variable {E : Ent} {δ δ' : List Sl} {ta tb te tc : TE} {d x y : D} {w : World} {XE : XK}
theorem evf_joined {found : List Grp} {k : Int} {s : Int × Int} (ha : Ev E ta δ (foundD found)) (hb : Ev E tb δ (.int k)) (hc : Ev E tc δ (stD s)) (h : Sz 60 found) : EvF E (tCall (sp_joined E.K) [] XE (tCons ta (tCons tb (tCons tc tNil)))) δ ((joinF found k s).map grpD) := evF_call (ea_d ha (ea_d hb (ea_d hc ea_nil))) ⟨found, k, s, rfl, h, rfl⟩
theorem evn_groups {ss : List (Int × Int)} (ha : Ev E ta δ (stonesD ss)) (h : OkS ss) : EvN E (tCall (sp_groups E.K) [] XE (tCons ta tNil)) δ (groupsD (grpF ss)) := evN_call (ea_d ha ea_nil) ⟨ss, rfl, h, rfl⟩
theorem evf_law_groups {ss : List (Int × Int)} (ha : Ev E ta δ (stonesD ss)) (h : OkS ss) : EvF E (tCall (sp_law_groups E.K) [] XE (tCons ta tNil)) δ ((grpF ss).map intsL) := evF_call (ea_d ha ea_nil) ⟨ss, rfl, h, rfl⟩
theorem nums_val (n : Int) (ns : List Int) : (valD (numsK ns) (.inl n)).isSome = decide (n ∈ ns) := by
  unfold numsK
  rw [valD_map (fun _ => PyData.bool true)]
  by_cases h : n ∈ ns <;> simp [h]
theorem nums_put (n : Int) (ns : List Int) : PL.putD (numsK ns) (.inl n) (.bool true) = numsK (if n ∈ ns then ns else ns ++ [n]) := by
  have anyM : ∀ (m : List Int), ((m.map fun k => ((Sum.inl k : Key), PyData.bool true)).any fun kv => decide (kv.1 = (Sum.inl n : Key))) = decide (n ∈ m) := by
    intro m
    induction m with
    | nil => simp
    | cons k m ih =>
      rw [List.map_cons, List.any_cons, ih]
      by_cases e : k = n
      · subst e; simp
      · have e2 : ¬ (Sum.inl k : Key) = Sum.inl n := fun z => e (Sum.inl.inj z)
        have e3 : ¬ n = k := fun z => e z.symm
        simp [e3, e]
  unfold PL.putD numsK
  rw [anyM]
  by_cases h : n ∈ ns
  · rw [decide_eq_true h, if_pos rfl, if_pos h, List.map_map]
    refine List.map_congr_left fun k _ => ?_
    show (if (Sum.inl k : Key) = Sum.inl n then _ else _) = _
    split
    · rfl
    · rfl
  · rw [decide_eq_false h, if_neg Bool.false_ne_true, if_neg h, List.map_append]
    rfl
theorem nums_merge : ∀ (b a : List Int), mrgD (numsK a) (numsK b) = numsK (ddA a b)
  | [], a => rfl
  | n :: b, a => by
    show mrgD (PL.putD (numsK a) (.inl n) (.bool true)) (numsK b) = _
    rw [nums_put, nums_merge b]
    rfl
theorem filter_snoc {α : Type} (p : α → Bool) (l : List α) (i : Nat) (g : α) (h : l[i]? = some g) : (l.take (i + 1)).filter p = (l.take i).filter p ++ (if p g = true then [g] else []) := by
  have tk : l.take (i + 1) = l.take i ++ [g] := by rw [List.take_succ, h]; rfl
  rw [tk, List.filter_append]
  cases hp : p g <;> simp [hp]
theorem jP_snoc (k : Int) (s : Int × Int) (l : List Grp) (i : Nat) (g : Grp) (h : l[i]? = some g) : jP k s (l.take (i + 1)) = if tchB s g = true then g.1 ++ jP k s (l.take i) else jP k s (l.take i) := by
  unfold jP
  rw [filter_snoc _ _ _ _ h]
  split
  · simp [List.map_append, List.reverse_append]
  · simp
theorem jN_snoc (s : Int × Int) (l : List Grp) (i : Nat) (g : Grp) (h : l[i]? = some g) : jN s (l.take (i + 1)) = if tchB s g = true then ddA (jN s (l.take i)) g.2 else jN s (l.take i) := by
  unfold jN
  rw [filter_snoc _ _ _ _ h]
  split
  · rw [List.foldl_append]; rfl
  · simp
theorem tot_take (f : Grp → Nat) (l : List Grp) (i : Nat) : tot f (l.take i) ≤ tot f l := by
  unfold tot
  have e : (l.map f).sum = ((l.take i).map f).sum + ((l.drop i).map f).sum := by
    rw [← List.sum_append, ← List.map_append, List.take_append_drop]
  omega
theorem xs_joined (found : List Grp) (k : Int) (s : Int × Int) (hz : Sz 60 found) : Xs E (t_joined E.K w) (argSl [.d (foundD found), .d (.int k), .d (stD s)] 4) fun o => o = .rl ((joinF found k s).map grpD) := by
  refine q_asg (d := intsL [k]) (ev_lst (ed_cons (ev_var rfl) ed_nil) (by show 1 ≤ 100000; decide)) ?_
  refine q_asgK (evK_disp2 (k1 := .inl s.1) (k2 := .inl s.2) (ev_st0 (ev_var rfl)) ev_bl (ev_st1 (ev_var rfl)) ev_bl) ?_
  have e0 : PL.putD (PL.putD [] (.inl s.1) (.bool true)) (.inl s.2) (.bool true) = numsK (ddA [] [s.1, s.2]) := by
    have h1 := nums_put s.1 []
    have h2 := nums_put s.2 (if s.1 ∈ ([] : List Int) then [] else [] ++ [s.1])
    have e : PL.putD (numsK []) (.inl s.1) (.bool true) = PL.putD [] (.inl s.1) (.bool true) := rfl
    rw [e] at h1
    rw [h1, h2]
    rfl
  rw [e0]
  refine q_asgF (evF_lst ed_nil (by decide)) ?_
  refine xs_seq (xs_for (ei_list (ev_var rfl)) (fun i δ => ∃ s6, δ = [.d (foundD found), .d (.int k), .d (stD s), .d (intsL (jP k s (found.take i))), .od (numsK (jN s (found.take i))), .ow (((found.take i).filter fun g => !tchB s g).map grpD), s6]) ⟨.no, rfl⟩ ?_ ?_)
  · rintro i x δ' hx ⟨s6, rfl⟩
    obtain ⟨g, hg, rfl⟩ : ∃ g, found[i]? = some g ∧ x = grpD g := by
      rw [List.getElem?_map] at hx
      cases q : found[i]? with
      | none => rw [q] at hx; cases hx
      | some n => rw [q] at hx; exact ⟨n, rfl, (Option.some.inj hx).symm⟩
    have gm : g ∈ found := List.mem_of_getElem? hg
    have z1 := tot_mem (fun g => g.1.length) gm
    have z2 := tot_mem (fun g => g.2.length) gm
    have z3 := jP_len k s (found.take i)
    have z4 := tot_le (fun g => g.1.length) (tchB s) (found.take i)
    have z5 := tot_take (fun g => g.1.length) found i
    have z6 := jN_len s (found.take i)
    have z7 := tot_le (fun g => g.2.length) (tchB s) (found.take i)
    have z8 := tot_take (fun g => g.2.length) found i
    have z9 := hz.p
    have z10 := hz.n
    have z11 := hz.l
    refine ⟨_, _, tg_name, ?_⟩
    refine xs_if (b := tchB s g) ?_ (fun e => ?_) fun e => ?_
    · refine (et_or (et_B ((ev_din (kvs := numsK g.2) (k := .inl s.1) (ev_st0 (ev_var rfl)) (ev_ixT1 (ev_var rfl))).is (by rw [nums_val]))) fun _ => et_B ((ev_din (kvs := numsK g.2) (k := .inl s.2) (ev_st1 (ev_var rfl)) (ev_ixT1 (ev_var rfl))).is (by rw [nums_val]))).is rfl
    · refine q_asg (d := intsL (g.1 ++ jP k s (found.take i))) ?_ ?_
      · have := (evF_cat (E := E) (xs := g.1.map .int) (ys := (jP k s (found.take i)).map .int) (ta := tOp (rIxT E.K) (tVar 6) (tC (.int 0))) (tb := tVar 3) (δ := [.d (foundD found), .d (.int k), .d (stD s), .d (intsL (jP k s (found.take i))), .od (numsK (jN s (found.take i))), .ow (((found.take i).filter fun g => !tchB s g).map grpD), .d (grpD g)]) (ev_ixT0 (ev_var rfl)) (ev_var rfl) (by simp only [List.length_map]; omega)).ev
        rw [← List.map_append] at this
        exact this
      · refine xs_drop (evM_dupd (n := 4) (more := numsK g.2) rfl (ev_ixT1 (ev_var rfl)) (by simp only [numsK, List.length_map]; omega)) ?_
        refine ⟨.d (grpD g), ?_⟩
        rw [nums_merge, jP_snoc _ _ _ _ _ hg, jN_snoc _ _ _ _ hg, if_pos e, if_pos e, filter_snoc _ _ _ _ hg]
        simp [e]
    · refine xs_drop (evM_append (n := 5) rfl (ev_var rfl) ?_) ?_
      · have := List.length_filter_le (fun g => !tchB s g) (found.take i)
        have := List.length_take_le i found
        have l2 : (found.take i).length ≤ found.length := by rw [List.length_take]; omega
        rw [List.length_map]; omega
      · refine ⟨.d (grpD g), ?_⟩
        have e' : ¬ tchB s g = true := by rw [e]; exact Bool.false_ne_true
        rw [jP_snoc _ _ _ _ _ hg, jN_snoc _ _ _ _ hg, if_neg e', if_neg e', filter_snoc _ _ _ _ hg]
        simp [e]
  · rintro δ' ⟨s6, rfl⟩
    show Xs E _ [_, _, _, .d (intsL (jP k s (found.take (found.map grpD).length))), .od (numsK (jN s (found.take (found.map grpD).length))), .ow (((found.take (found.map grpD).length).filter fun g => !tchB s g).map grpD), s6] _
    rw [List.length_map, List.take_length]
    refine xs_share (i := 5) rfl ?_
    refine xs_shareD (i := 4) rfl ?_
    have hl := List.length_filter_le (fun g => !tchB s g) found
    have hz1 := hz.l
    have := evF_cat (E := E) (xs := (found.filter fun g => !tchB s g).map grpD) (ys := [grpD (jP k s found, jN s found)]) (ta := tVar 5) (tb := tLst (tCons (tTup (tCons (tVar 3) (tCons (tVar 4) tNil))) tNil)) (δ := [.d (foundD found), .d (.int k), .d (stD s), .d (intsL (jP k s found)), .d (dictD (numsK (jN s found))), .d (.list ((found.filter fun g => !tchB s g).map grpD)), s6])
      (ev_var rfl) (ev_lst (ed_cons (ev_tup (ed_cons (ev_var rfl) (ed_cons (ev_var rfl) ed_nil)) (by show 2 ≤ 100000; decide)) ed_nil) (by show 1 ≤ 100000; decide)) (by simp only [List.length_map, List.length_cons, List.length_nil]; omega)
    refine xs_retF this ?_
    unfold joinF
    rw [List.map_append]
    rfl
theorem enumD_get {xs : List D} {i : Nat} {x : D} (h : (enumD xs)[i]? = some x) : ∃ y, xs[i]? = some y ∧ x = .tuple [.int (i : Int), y] := by
  unfold enumD at h
  rw [List.getElem?_mapIdx] at h
  cases q : xs[i]? with
  | none => rw [q] at h; cases h
  | some y => rw [q] at h; exact ⟨y, rfl, (Option.some.inj h).symm⟩
theorem xs_groups (ss : List (Int × Int)) (hs : OkS ss) : Xs E (t_groups E.K w) (argSl [.d (stonesD ss)] 5) fun o => o = .rf (groupsD (grpF ss)) := by
  refine q_drop (evc_need (ev_var rfl) (isStones_of hs)).m ?_
  refine q_asg (d := foundD []) (ev_lst ed_nil (by decide)) ?_
  refine xs_seq (xs_for (ei_enum (xs := ss.map stD) (ed_cons (ev_var rfl) ed_nil)) (fun i δ => ∃ s2 s3 s4 s5, δ = [.d (stonesD ss), .d (foundD (foundF ss i)), s2, s3, s4, s5]) ⟨_, _, _, _, rfl⟩ ?_ ?_)
  · rintro i x δ' hx ⟨s2, s3, s4, s5, rfl⟩
    obtain ⟨y, hy, rfl⟩ := enumD_get hx
    have hi : i < ss.length := by
      have := (List.getElem?_eq_some_iff.mp hy).1
      rwa [List.length_map] at this
    have ey : y = stD (stAt ss (i : Int)) := by
      rw [List.getElem?_map, List.getElem?_eq_getElem hi] at hy
      rw [← Option.some.inj hy]
      unfold stAt
      rw [Int.toNat_natCast, List.getD_eq_getElem?_getD, List.getElem?_eq_getElem hi]
      rfl
    subst ey
    have sz := sz_found ss i
    have h60 := hs.len
    have sz2 : Sz 60 (foundF ss i) := ⟨by have := sz.l; omega, by have := sz.p; omega, by have := sz.n; omega⟩
    refine ⟨_, _, tg_two, ?_⟩
    exact xs_asg (evf_joined (found := foundF ss i) (k := (i : Int)) (s := stAt ss (i : Int)) (ev_var rfl) (ev_var rfl) (ev_var rfl) sz2).ev ⟨_, _, _, _, rfl⟩
  · rintro δ' ⟨s2, s3, s4, s5, rfl⟩
    have el : (enumD (ss.map stD)).length = ss.length := by unfold enumD; rw [List.length_mapIdx, List.length_map]
    show Xs E _ [_, .d (foundD (foundF ss (enumD (ss.map stD)).length)), s2, s3, s4, s5] _
    rw [el]
    have sz := sz_found ss ss.length
    have h60 := hs.len
    have co := (found_ok ss ss.length).1
    have hi : EvIp E (iList E.K (tVar 1)) [.d (stonesD ss), .d (foundD (foundF ss ss.length)), s2, s3, s4, s5] ((foundF ss ss.length).map fun g => rp (grpD g)) := by
      have := (EvI.c (ei_list (E := E) (K := E.K) (te := tVar 1) (xs := (foundF ss ss.length).map grpD) (δ := [.d (stonesD ss), .d (foundD (foundF ss ss.length)), s2, s3, s4, s5]) (ev_var rfl))).p
      rw [List.map_map] at this
      exact this
    have key := evL_map (E := E) (g := gTup E.K 2 (gCons (gName 4) (gCons (gName 5) gNil))) (te := tCB (rSortedI E.K) (tCons (tVar 4) tNil)) (vs := [4, 5]) (foundF ss ss.length) (fun g => rp (grpD g)) (fun g => fr E (intsL (isort g.1))) (fun g => mon_fr E _) hi (by have := sz.l; omega) fun g hg => ⟨_, _, by simp, Tg.p (tg_two (E := E) (K := E.K) (i := 4) (j := 5) (x := intsL g.1) (y := dictD (numsK g.2))), EvF.fr (evF_sorted (ns := g.1) (ms := isort g.1) (ev_var rfl) fun ms p h => isort_is p h) (by rw [List.all_map]; exact List.all_eq_true.mpr fun _ _ => rfl)⟩
    have e1 : ((foundF ss ss.length).map fun g => fr E (intsL (isort g.1))) = (((foundF ss ss.length).map Prod.fst).map isort).map fun g => fr E (intsL g) := by rw [List.map_map, List.map_map]; rfl
    rw [e1] at key
    have := evL_sortedL key (gss0 := grpF ss) fun l p h => ord_unique co.ne co.dj l p h
    have e2 : ((grpF ss).map fun g => fr E (intsL g)) = ((grpF ss).map intsL).map (fr E) := by rw [List.map_map]; rfl
    rw [e2] at this
    exact xs_retL this rfl
end
end PL

/-! R5: the law's own groups. -/
namespace PL
open PySem L2
section
variable {E : Ent} {δ δ' : List Sl} {ta tb te tc : TE} {d x y : D} {w : World} {XE : XK}
theorem range_ints (n : Nat) : (intsD 0 ((n : Int).toNat)) = ((List.range n).map fun (k : Nat) => (k : Int)).map PyData.int := by
  unfold intsD
  rw [Int.toNat_natCast, List.map_map]
  exact List.map_congr_left fun k _ => by rw [Int.zero_add]; rfl
theorem ne_nilO {i : Nat} {ns : List Int} (h : δ[i]? = some (.ow (ns.map .int))) : Et E (tTest (tOp (rNeD E.K) (tVar i) (tLst tNil))) δ (decide (ns ≠ [])) := by
  refine Et.lend h ((et_test (ev_neD (d1 := intsL ns) (ev_var ?_) (ev_lst ed_nil (by decide)) (shp_ints ns) shp_nil)).is ?_)
  · have lt := (List.getElem?_eq_some_iff.mp h).1
    simp [lt, intsL]
  · show (!PyData.eqv (.list (ns.map .int)) (.list [])) = _
    rw [eqv_nil]
    cases ns <;> simp
theorem ne_nilL {i : Nat} {ns : List Int} (h : δ[i]? = some (.d (intsL ns))) : Et E (tTest (tOp (rNeD E.K) (tVar i) (tLst tNil))) δ (decide (ns ≠ [])) := by
  refine (et_test (ev_neD (d1 := intsL ns) (ev_var h) (ev_lst ed_nil (by decide)) (shp_ints ns) shp_nil)).is ?_
  show (!PyData.eqv (.list (ns.map .int)) (.list [])) = _
  rw [eqv_nil]
  cases ns <;> simp
theorem ev_ends {ss : List (Int × Int)} {i : Int} (ha : Ev E ta δ (stonesD ss)) (hb : Ev E tb δ (.int i)) (h : 0 ≤ i ∧ i < (ss.length : Int)) : Ev E (tCB (cList E.K) (tCons (tOp (rIxL E.K) ta tb) tNil)) δ (intsL [(stAt ss i).1, (stAt ss i).2]) :=
  (evF_listT (ev_ixL ha hb (stD_get h))).ev
theorem ev_catI {a b : List Int} (ha : Ev E ta δ (intsL a)) (hb : Ev E tb δ (intsL b)) (hz : a.length + b.length ≤ 100000) : Ev E (tOp rCat ta tb) δ (intsL (a ++ b)) := by
  have := (evF_cat ha hb (by rw [List.length_map, List.length_map]; exact hz)).ev
  rw [← List.map_append] at this
  exact this
theorem xs_law_groups (ss : List (Int × Int)) (hs : OkS ss) : Xs E (t_law_groups E.K w) (argSl [.d (stonesD ss)] 6) fun o => o = .rl ((grpF ss).map intsL) := by
  have h60 := hs.len
  have q1 : EvF E (tLstRg (tRg1 (tCB (cLen E.K) (tCons (tVar 0) tNil)))) (argSl [.d (stonesD ss)] 6) (((List.range ss.length).map fun (k : Nat) => (k : Int)).map PyData.int) := by
    rw [← range_ints]
    refine evF_listRg ((ev_lenL (ev_var rfl)).is (by rw [List.length_map])) ⟨by omega, by omega⟩
  refine q_asgF q1 ?_
  refine q_asgF (evF_lst ed_nil (by decide)) ?_
  refine xs_seq (xs_while (fun m δ => ∃ left found s3 s4 s5 s6, m = left.length ∧ LawI ss (ss.length : Int) found left ∧ δ = [.d (stonesD ss), .ow (left.map .int), .ow (found.map intsL), s3, s4, s5, s6]) ss.length ⟨_, [], _, _, _, _, by simp, lawI_start ss ss.length, rfl⟩ ?_)
  rintro m δ' ⟨left, found, s3, s4, s5, s6, rfl, li, rfl⟩
  refine ⟨decide (left ≠ []), ne_nilO rfl, fun e => ?_, fun e => ?_⟩
  · have hne : left ≠ [] := by simpa using e
    obtain ⟨x, l0, rfl⟩ : ∃ x l0, left = x :: l0 := by cases left with | nil => exact absurd rfl hne | cons x l => exact ⟨x, l, rfl⟩
    have hv : ∀ i ∈ x :: l0, 0 ≤ i ∧ i < (ss.length : Int) := fun i hi => (li.cover i).mp (.inr hi)
    have hx := hv x List.mem_cons_self
    have hl0 := li.len
    simp only [List.length_cons, Int.toNat_natCast] at hl0
    refine q_asgM (evM_lst1 (evM_popAt (n := 1) (j := 0) (xs := (x :: l0).map .int) (i := 0) rfl ev_int rfl (by decide) rfl)) ?_
    show Xs E _ [.d (stonesD ss), .ow (l0.map .int), .ow (found.map intsL), .d (intsL [x]), s4, s5, s6] _
    refine q_asg (ev_ends (ss := ss) (i := x) (ev_var rfl) (ev_ixL (ev_var rfl) ev_int atI_0) hx) ?_
    refine q_asg (d := intsL [0]) (ev_lst (ed_cons ev_int ed_nil) (by show 1 ≤ 100000; decide)) ?_
    refine xs_seq (xs_while (fun m δ => ∃ group lft nums more s6, m = 2 * lft.length + (if more = [] then 0 else 1) ∧ InI ss (ss.length : Int) x l0 group lft nums more ∧ δ = [.d (stonesD ss), .ow (lft.map .int), .ow (found.map intsL), .d (intsL group), .d (intsL nums), .d (intsL more), s6]) (2 * l0.length + 1) ⟨[x], l0, _, [0], _, by simp, InI.start li, rfl⟩ ?_)
    rintro m δ' ⟨group, lft, nums, more, s6, rfl, ii, rfl⟩
    refine ⟨decide (more ≠ []), ne_nilL rfl, fun e => ?_, fun e => ?_⟩
    · have hm : more ≠ [] := by simpa using e
      have il := ii.len
      have inl := ii.nlen
      have gl : 0 < group.length := List.length_pos_of_mem ii.gx
      have hvl : ∀ i ∈ lft, 0 ≤ i ∧ i < (ss.length : Int) := fun i hi => hv i ((ii.part i).mp (.inr hi))
      have key : EvF E (tLc (iList E.K (tVar 1)) (gName 6) (tOr (tTest (tOp (rIn E.K false) (tOp (rIxT E.K) (tOp (rIxL E.K) (tVar 0) (tVar 6)) (tC (.int 0))) (tVar 4))) (tTest (tOp (rIn E.K false) (tOp (rIxT E.K) (tOp (rIxL E.K) (tVar 0) (tVar 6)) (tC (.int 1))) (tVar 4)))) (tVar 6) [6])
          [.d (stonesD ss), .ow (lft.map .int), .ow (found.map intsL), .d (intsL group), .d (intsL nums), .d (intsL more), s6] ((lft.filter (tnB ss nums)).map .int) := by
        refine EvF.lend (i := 1) rfl ?_ (by rw [List.all_map]; exact List.all_eq_true.mpr fun _ _ => rfl)
        refine evF_lc lft .int (tnB ss nums) .int (EvI.c (ei_list (ev_var rfl))) (by omega) fun j hj => ⟨[6], _, by simp, tg_name, ?_, fun _ => ev_var rfl⟩
        have g := stD_get (ss := ss) (hvl j hj)
        exact et_or (et_test (ev_inL (ev_st0 (ev_ixL (ev_var rfl) (ev_var rfl) g)) (ev_var rfl))) fun _ => et_test (ev_inL (ev_st1 (ev_ixL (ev_var rfl) (ev_var rfl) g)) (ev_var rfl))
      have st := ii.step hv
      have fl := List.length_filter_le (tnB ss nums) lft
      have r3 := (remL_ok (lft.filter (tnB ss nums)) lft ii.lr ((strict_nodup ii.lr).filter _) fun i hi => (List.mem_filter.mp hi).1).2.2
      refine q_asg (d := intsL (lft.filter (tnB ss nums))) key.ev ?_
      generalize hnew : lft.filter (tnB ss nums) = new at st fl r3 ⊢
      have nnd : new.Nodup := by rw [← hnew]; exact (strict_nodup ii.lr).filter _
      have nsub : ∀ i ∈ new, i ∈ lft := fun i hi => by rw [← hnew] at hi; exact (List.mem_filter.mp hi).1
      refine xs_seq (xs_for (ei_list (xs := new.map .int) (ev_var rfl)) (fun i δ => ∃ s6, δ = [.d (stonesD ss), .ow ((remL lft (new.take i)).map .int), .ow (found.map intsL), .d (intsL group), .d (intsL (nums ++ endsF ss (new.take i))), .d (intsL new), s6]) ⟨s6, by rw [List.take_zero]; show _ = [_, _, _, _, Sl.d (intsL (nums ++ [])), _, _]; rw [List.append_nil]; rfl⟩ ?_ ?_)
      · rintro i x' δ' hx' ⟨s6, rfl⟩
        obtain ⟨n, hn, rfl⟩ : ∃ n, new[i]? = some n ∧ x' = .int n := by
          rw [List.getElem?_map] at hx'
          cases q : new[i]? with
          | none => rw [q] at hx'; cases hx'
          | some n => rw [q] at hx'; exact ⟨n, rfl, (Option.some.inj hx').symm⟩
        have tk : new.take (i + 1) = new.take i ++ [n] := by rw [List.take_succ, hn]; rfl
        have hnm : n ∈ new := List.mem_of_getElem? hn
        have sub : (new.take i).Sublist new := List.take_sublist i new
        have nt : ¬ n ∈ new.take i := fun z => by
          have h2 : (new.take (i + 1)).Nodup := nnd.sublist (List.take_sublist _ _)
          rw [tk, List.nodup_append] at h2
          exact h2.2.2 n z n (by simp) rfl
        obtain ⟨_, r2, _⟩ := remL_ok (new.take i) lft ii.lr (nnd.sublist sub) fun j hj => nsub j (sub.subset hj)
        have tl : (new.take i).length ≤ new.length := by rw [List.length_take]; omega
        refine ⟨_, _, tg_name, ?_⟩
        refine q_drop (evM_remove (n := 1) rfl (ev_var rfl) ((r2 n).mpr ⟨nsub n hnm, nt⟩)) ?_
        refine xs_asg (ev_catI (ev_var rfl) (ev_ends (ss := ss) (i := n) (ev_var rfl) (ev_var rfl) (hvl n (nsub n hnm))) ?_) ?_
        · rw [List.length_append, endsF_len]; show _ + 2 ≤ 100000; omega
        · refine ⟨.d (.int n), ?_⟩
          rw [tk, remL_snoc, endsF_snoc, ← List.append_assoc]
          rfl
      · rintro δ' ⟨s6, rfl⟩
        show Xs E _ [_, .ow ((remL lft (new.take (new.map PyData.int).length)).map .int), _, _, .d (intsL (nums ++ endsF ss (new.take (new.map PyData.int).length))), _, s6] _
        rw [List.length_map, List.take_length]
        refine xs_asg (ev_catI (ev_var rfl) (ev_var rfl) (by omega)) ?_
        refine ⟨_, ?_, group ++ new, remL lft new, nums ++ endsF ss new, new, s6, rfl, st, rfl⟩
        rw [if_neg hm]
        by_cases e : new = []
        · rw [if_pos e]
          rw [e] at r3
          have r3 : (remL lft new).length + 0 = lft.length := by rw [e]; exact r3
          omega
        · rw [if_neg e]
          have := List.length_pos_iff.mpr e
          omega
    · have hm : more = [] := by simpa using e
      subst hm
      have lc := ii.close li
      have lcl := lc.len
      simp only [List.length_append, List.length_cons, List.length_nil, Int.toNat_natCast] at lcl
      refine xs_drop (evM_append (n := 2) (d := intsL (isort group)) rfl (evF_sorted (ns := group) (ms := isort group) (ev_var rfl) fun ms p h => isort_is p h).ev (by rw [List.length_map]; omega)) ?_
      have il := ii.len
      have gl : 0 < group.length := List.length_pos_of_mem ii.gx
      refine ⟨lft.length, by simp only [List.length_cons]; omega, lft, found ++ [isort group], .d (intsL group), .d (intsL nums), .d (intsL []), s6, rfl, lc, ?_⟩
      rw [List.map_append]
      rfl
  · have hl : left = [] := by simpa using e
    subst hl
    refine xs_retO (i := 2) rfl ?_
    rw [isGr_unique li.done (grpF_is ss)]
end
end PL

/-! R6: groups' sizes; loops over lists of lists that a call handed back. -/
namespace PL
open PySem L2
theorem grp_from {ss : List (Int × Int)} {g : List Int} (h : g ∈ grpF ss) : ∃ a ∈ foundF ss ss.length, g = isort a.1 := by
  obtain ⟨l, hl, e⟩ := List.mem_map.mp ((hsort_perm _).mem_iff.mp h)
  obtain ⟨a, ha, e2⟩ := List.mem_map.mp hl
  exact ⟨a, ha, by rw [← e, ← e2]⟩
theorem grp_len {ss : List (Int × Int)} (hs : OkS ss) : (grpF ss).length ≤ 60 := by
  unfold grpF ordG
  rw [(hsort_perm _).length_eq, List.length_map, List.length_map]
  have := (sz_found ss ss.length).l
  have := hs.len
  omega
theorem grp_ok {ss : List (Int × Int)} (hs : OkS ss) {g : List Int} (h : g ∈ grpF ss) : OkG ss g := by
  refine ⟨?_, fun i hi => ((grpF_is ss).cover i).mp ⟨g, h, hi⟩⟩
  obtain ⟨a, ha, e⟩ := grp_from h
  have h1 := tot_mem (fun g => g.1.length) ha
  have h2 := (sz_found ss ss.length).p
  have h3 := hs.len
  rw [e, (isort_perm _).length_eq]
  omega
theorem okA_ints (n : Nat) (l : List Int) (h : l.length ≤ 1000) : okA (n + 1) (intsL l) = true := by
  show (decide ((l.map PyData.int).length ≤ 1000) && (l.map PyData.int).all (okA n)) = true
  rw [List.length_map, decide_eq_true h, Bool.true_and, List.all_map]
  exact List.all_eq_true.mpr fun _ _ => by cases n <;> rfl
theorem okA_groups {n : Nat} {gs : List (List Int)} (h : gs.length ≤ 1000) (h2 : ∀ g ∈ gs, g.length ≤ 1000) : okA (n + 2) (groupsD gs) = true := by
  show (decide ((gs.map intsL).length ≤ 1000) && (gs.map intsL).all (okA (n + 1))) = true
  rw [List.length_map, decide_eq_true h, Bool.true_and, List.all_map]
  exact List.all_eq_true.mpr fun g hg => okA_ints n g (h2 g hg)
theorem eqv_map {α : Type} {f : α → D} (h : ∀ a, PyData.eqv (f a) (f a) = true) : ∀ l : List α, PyData.eqvAll (l.map f) (l.map f) = true
  | [] => by simp [PyData.eqvAll]
  | a :: l => by rw [List.map_cons, PyData.eqvAll, h a, eqv_map h l]; rfl
theorem eqv_st (s : Int × Int) : PyData.eqv (stD s) (stD s) = true := by
  unfold stD
  simp [PyData.eqv, PyData.eqvAll]
theorem eqv_stones (ss : List (Int × Int)) : PyData.eqv (stonesD ss) (stonesD ss) = true := by
  unfold stonesD
  rw [PyData.eqv]
  exact eqv_map eqv_st ss
theorem lay_st (s : Int × Int) : (stD s).canLay0 = true := by
  unfold stD
  simp [PyData.canLay0, PyData.canLayAll0]
theorem dep_st (s : Int × Int) : (stD s).depth ≤ 1 := by
  unfold stD
  simp [PyData.depth, PyData.depthAll]
theorem shp_stones (ss : List (Int × Int)) : SeqAt.shaped (stonesD ss) = true := shp_of (by unfold stonesD; rw [PyData.canLay0]; exact lay_all lay_st ss) (by
  unfold stonesD
  rw [PyData.depth]
  have := dep_all dep_st ss
  omega)
theorem lay_intsL (g : List Int) : (intsL g).canLay0 = true := by unfold intsL; rw [PyData.canLay0]; exact lay_ints g
theorem dep_intsL (g : List Int) : (intsL g).depth ≤ 1 := by unfold intsL; rw [PyData.depth, dep_ints]; exact Nat.le_refl _
theorem shp_groups (gs : List (List Int)) : SeqAt.shaped (groupsD gs) = true := shp_of (by unfold groupsD; rw [PyData.canLay0]; exact lay_all lay_intsL gs) (by
  unfold groupsD
  rw [PyData.depth]
  have := dep_all dep_intsL gs
  omega)
/-- p: a list of the lists at ts, each of at most b items -/
def LL (p : Addr) (ts : List Addr) (b : Nat) : Hp → V → Prop := fun F v => v = .ref p ∧ F p = some (.lst (ts.map V.ref)) ∧ ¬ p ∈ ts ∧ ts.length ≤ 1000 ∧ ∀ t ∈ ts, ∃ us, F t = some (.lst us) ∧ us.length ≤ b
theorem rpA_lists {F : Hp} : ∀ {gs : List (List Int)} {vs : List V}, RpA F (gs.map intsL) vs → ∃ ts : List Addr, vs = ts.map V.ref ∧ ts.length = gs.length ∧ ∀ t ∈ ts, ∃ g ∈ gs, F t = some (.lst (g.map V.int))
  | [], _, h => ⟨[], h, rfl, fun _ z => absurd z (by simp)⟩
  | g :: gs, _, ⟨v, r, h1, h2, h3⟩ => by
    obtain ⟨t, e, h4⟩ := rp_ints h2
    obtain ⟨ts, e2, e3, h5⟩ := rpA_lists h3
    subst e e2
    refine ⟨t :: ts, h1, by simp [e3], fun t' ht => ?_⟩
    rcases List.mem_cons.mp ht with e | e
    · subst e; exact ⟨g, List.mem_cons_self, h4⟩
    · obtain ⟨g', hg', h6⟩ := h5 t' e
      exact ⟨g', List.mem_cons_of_mem _ hg', h6⟩
theorem LL_of {gs : List (List Int)} {b : Nat} (hl : gs.length ≤ 1000) (hb : ∀ g ∈ gs, g.length ≤ b) (F : Hp) (v : V) (h : Rp F (groupsD gs) v) : ∃ x : Addr × List Addr, LL x.1 x.2 b F v := by
  obtain ⟨p, vs, e, h1, h2⟩ := h
  obtain ⟨ts, e2, e3, h3⟩ := rpA_lists h2
  subst e2
  refine ⟨(p, ts), e, h1, fun hp => ?_, (by show ts.length ≤ 1000; omega), fun t ht => ?_⟩
  · obtain ⟨g, _, h4⟩ := h3 p hp
    rw [h1] at h4
    have h4 := Option.some.inj h4
    injection h4 with h4
    cases ts with
    | nil => cases hp
    | cons a ts =>
      cases g with
      | nil => cases h4
      | cons x g => cases h4
  · obtain ⟨g, hg, h4⟩ := h3 t ht
    exact ⟨_, h4, by rw [List.length_map]; exact hb g hg⟩
section
variable {E : Ent} {δ δ' : List Sl} {ta tb te tc : TE} {d x y : D} {w : World} {XE : XK} {K : PySem.W.Frag} {Φ : Out → Prop}
/-- for g in xs: g.append(c) -/
theorem xs_forApp {i j : Nat} {p : Addr} {ts : List Addr} {b : Nat} (ij : i ≠ j) (lj : j < δ.length) (h : δ[i]? = some (.ob fun _ F v => LL p ts b F v)) (hb : b ≤ 1000) (ha : ∀ δ', Ev E ta δ' d)
    (k : ∀ s, Φ (.nx ((δ.set j s).set i (.ob fun _ F v => LL p ts (b + ts.length) F v)))) (hl : ts.length ≤ 1000) : Xs E (tFor (iList K (tVar i)) (gName j) (tDrop (tBM E.K "list" rAppend (tVar j) (tCons ta tNil)))) δ Φ := by
  have li : i < δ.length := (List.getElem?_eq_some_iff.mp h).1
  obtain ⟨s0, hs0⟩ : ∃ s0, δ[j]? = some s0 := ⟨_, List.getElem?_eq_getElem lj⟩
  refine xs_forIn (p := p) (vs := ts.map V.ref) (fun n δ' => ∃ s, δ' = (δ.set j s).set i (.ob fun _ F v => LL p ts (b + n) F v)) ⟨s0, by rw [set_get hs0]; exact (set_get h).symm⟩ ?_ ?_ ?_
  · rintro n δ' ⟨s, rfl⟩
    exact ⟨LL p ts (b + n), by simp [li], fun F v z => ⟨z.1, z.2.1⟩⟩
  · rintro n x δ' hx ⟨s, rfl⟩
    obtain ⟨t, ht, rfl⟩ : ∃ t ∈ ts, x = .ref t := by
      obtain ⟨t, ht, e⟩ := List.mem_map.mp (List.mem_of_getElem? hx)
      exact ⟨t, ht, e.symm⟩
    have hn : n < ts.length := by
      have := (List.getElem?_eq_some_iff.mp hx).1
      rwa [List.length_map] at this
    refine ⟨_, tgV_name, ?_⟩
    refine xs_drop (evM_appendIn (i := i) (j := j) (a := t) (P := LL p ts (b + n)) (P' := LL p ts (b + (n + 1))) (by simp [lj]) (by simp [List.getElem?_set, Ne.symm ij, li]) (ha _) (fun F v z => ?_) fun F v us u z hu => ?_) ⟨.v (.ref t), ?_⟩
    · obtain ⟨us, h1, h2⟩ := z.2.2.2.2 t ht
      exact ⟨us, h1, by omega⟩
    · obtain ⟨z1, z2, z3, z4, z5⟩ := z
      have ne : p ≠ t := fun e => z3 (by rw [e]; exact ht)
      refine ⟨z1, by rw [upd_ne ne]; exact z2, z3, z4, fun t' ht' => ?_⟩
      by_cases e : t' = t
      · subst e
        obtain ⟨us', h1, h2⟩ := z5 t' ht'
        rw [hu] at h1
        cases h1
        exact ⟨_, upd_same, by simp; omega⟩
      · obtain ⟨us', h1, h2⟩ := z5 t' ht'
        exact ⟨us', by rw [upd_ne e]; exact h1, by omega⟩
    · show List.set _ i _ = _
      apply List.ext_getElem?
      intro m
      by_cases e1 : i = m
      · subst e1; simp [li]
      · by_cases e2 : j = m
        · subst e2
          simp [List.getElem?_set, e1, lj]
        · simp [List.getElem?_set, e1, e2]
  · rintro δ' ⟨s, rfl⟩
    rw [List.length_map]
    exact k s
end
end PL

/-! R7: why, fewest, the law's fewest. -/
namespace PL
open PySem L2
def whyOf (ss : List (Int × Int)) (g : List Int) : D := .tuple [intsL g, intsL (oddF ss g)]
def whyD (ss : List (Int × Int)) : D := .list ((grpF ss).map (whyOf ss))
def needF (ss : List (Int × Int)) (g : List Int) : Int := max 1 (((oddF ss g).length : Int) / 2)
def fewF (ss : List (Int × Int)) : Int := ((grpF ss).map (needF ss)).sum
def R_why (as : List Sl) (d : D) : Prop := ∃ ss, as = [.d (stonesD ss)] ∧ OkS ss ∧ d = whyD ss
def sp_why (K : PySem.W.Frag) : Sp := spN K R_why
def R_fewest (as : List Sl) (d : D) : Prop := ∃ ss, as = [.d (stonesD ss)] ∧ OkS ss ∧ d = .int (fewF ss)
def sp_fewest (K : PySem.W.Frag) : Sp := spR K R_fewest
def sp_law_fewest (K : PySem.W.Frag) : Sp := spR K R_fewest
def t_why (K : PySem.W.Frag) (w : World) : TS :=
    (tRet (tLc (iList K (tCall (sp_groups K) [] E0 (tCons (tVar 0) tNil))) (gName 1) tYes (tTup (tCons (tVar 1) (tCons (tCall (sp_odd_ends K) [] E0 (tCons (tVar 0) (tCons (tVar 1) tNil))) tNil))) [1]))

def t_fewest (K : PySem.W.Frag) (w : World) : TS :=
    (tRet (tCB (rSum K) (tCons (tLc (iList K (tCall (sp_why K) [] E0 (tCons (tVar 0) tNil))) (gTup K 2 (gCons (gName 1) (gCons (gName 2) gNil))) tYes (tCB (cMax2) (tCons (tC (.int 1)) (tCons (tOp (rI CDiv fun i j => .int (i / j)) (tCB (cLen K) (tCons (tVar 2) tNil)) (tC (.int 2))) tNil))) [1, 2]) tNil)))

def t_law_fewest (K : PySem.W.Frag) (w : World) : TS :=
    (tSeq (tAsg (tC (.int 0)) (gName 1))
    (tSeq (tFor (iList K (tCall (sp_law_groups K) [] E0 (tCons (tVar 0) tNil))) (gName 2)
    (tAsg (tOp (rI0 fun i j => .int (i + j)) (tVar 1) (tCB (cMax2) (tCons (tC (.int 1)) (tCons (tOp (rI CDiv fun i j => .int (i / j)) (tCB (cLen K) (tCons (tCall (sp_law_odd K) [] E0 (tCons (tVar 0) (tCons (tVar 2) tNil))) tNil)) (tC (.int 2))) tNil)))) (gName 1)))
    (tRet (tVar 1))))



section
variable {E : Ent} {δ δ' : List Sl} {ta tb te tc : TE} {d x y : D} {w : World} {XE : XK}
theorem evn_why {ss : List (Int × Int)} (ha : Ev E ta δ (stonesD ss)) (h : OkS ss) : EvN E (tCall (sp_why E.K) [] XE (tCons ta tNil)) δ (whyD ss) := evN_call (ea_d ha ea_nil) ⟨ss, rfl, h, rfl⟩
theorem ev_fewest {ss : List (Int × Int)} (ha : Ev E ta δ (stonesD ss)) (h : OkS ss) : Ev E (tCall (sp_fewest E.K) [] XE (tCons ta tNil)) δ (.int (fewF ss)) := ev_call (ea_d ha ea_nil) ⟨ss, rfl, h, rfl⟩
theorem ev_law_fewest {ss : List (Int × Int)} (ha : Ev E ta δ (stonesD ss)) (h : OkS ss) : Ev E (tCall (sp_law_fewest E.K) [] XE (tCons ta tNil)) δ (.int (fewF ss)) := ev_call (ea_d ha ea_nil) ⟨ss, rfl, h, rfl⟩
theorem odd_len (ss : List (Int × Int)) (g : List Int) (h : g.length ≤ 60) : (oddF ss g).length ≤ 120 := by
  unfold oddF
  rw [(isort_perm _).length_eq]
  have h1 := List.length_filter_le (oddB (endsF ss g)) (dd (endsF ss g))
  have h2 := dd_len (endsF ss g)
  have h3 := endsF_len ss g
  omega
theorem sc_ints (l : List Int) : (l.map PyData.int).all scalD = true := by
  rw [List.all_map]; exact List.all_eq_true.mpr fun _ _ => rfl
theorem xs_why (ss : List (Int × Int)) (hs : OkS ss) : Xs E (t_why E.K w) (argSl [.d (stonesD ss)] 1) fun o => o = .rf (whyD ss) := by
  have gl := grp_len hs
  have hi : EvIp E (iList E.K (tCall (sp_groups E.K) [] E0 (tCons (tVar 0) tNil))) (argSl [.d (stonesD ss)] 1) ((grpF ss).map fun g => fr E (intsL g)) := by
    have := ei_listN (E := E) (K := E.K) (xs := (grpF ss).map intsL) (evn_groups (XE := E0) (ss := ss) (ta := tVar 0) (δ := argSl [.d (stonesD ss)] 1) (ev_var rfl) hs)
    rw [List.map_map] at this
    exact this
  have key := evL_map (E := E) (g := gName 1) (te := tTup (tCons (tVar 1) (tCons (tCall (sp_odd_ends E.K) [] E0 (tCons (tVar 0) (tCons (tVar 1) tNil))) tNil))) (vs := [1]) (grpF ss) (fun g => fr E (intsL g)) (fun g => fr E (whyOf ss g)) (fun g => mon_fr E _) hi (by omega) fun g hg => ⟨_, _, by simp, tgP_name, evP_tup2 (evP_nd rfl) ((evf_odd (ss := ss) (g := g) (ev_var rfl) (ev_nd rfl) hs (grp_ok hs hg)).fr (sc_ints _))⟩
  have e2 : ((grpF ss).map fun g => fr E (whyOf ss g)) = ((grpF ss).map (whyOf ss)).map (fr E) := by rw [List.map_map]; rfl
  rw [e2] at key
  exact xs_retL key rfl
theorem xs_fewest (ss : List (Int × Int)) (hs : OkS ss) : Xs E (t_fewest E.K w) (argSl [.d (stonesD ss)] 2) fun o => o = .rt (.int (fewF ss)) := by
  have gl := grp_len hs
  have key : EvF E (tLc (iList E.K (tCall (sp_why E.K) [] E0 (tCons (tVar 0) tNil))) (gTup E.K 2 (gCons (gName 1) (gCons (gName 2) gNil))) tYes (tCB (cMax2) (tCons (tC (.int 1)) (tCons (tOp (rI CDiv fun i j => .int (i / j)) (tCB (cLen E.K) (tCons (tVar 2) tNil)) (tC (.int 2))) tNil))) [1, 2]) (argSl [.d (stonesD ss)] 2) ((grpF ss).map fun g => .int (needF ss g)) := by
    refine evF_map (grpF ss) (whyOf ss) (fun g => .int (needF ss g)) (EvI.c (ei_list (evn_why (ev_var rfl) hs).ev)) (by omega) fun g hg => ⟨_, _, by simp, tg_two, ?_⟩
    exact ev_max2 ev_int (ev_fdiv ((ev_lenL (ev_var rfl)).is (by rw [List.length_map])) ev_int ⟨by decide, by decide⟩)
  have e2 : ((grpF ss).map fun g => (PyData.int (needF ss g))) = ((grpF ss).map (needF ss)).map PyData.int := by rw [List.map_map]; rfl
  rw [e2] at key
  exact xs_ret (ev_sum key.ev) rfl
theorem xs_law_fewest (ss : List (Int × Int)) (hs : OkS ss) : Xs E (t_law_fewest E.K w) (argSl [.d (stonesD ss)] 2) fun o => o = .rt (.int (fewF ss)) := by
  refine q_asg (d := .int 0) ev_int ?_
  refine xs_seq (xs_for (ei_list (xs := (grpF ss).map intsL) (evf_law_groups (ev_var rfl) hs).ev) (fun i δ => ∃ s2, δ = [.d (stonesD ss), .d (.int (((grpF ss).take i).map (needF ss)).sum), s2]) ⟨_, rfl⟩ ?_ ?_)
  · rintro i x δ' hx ⟨s2, rfl⟩
    obtain ⟨g, hg, rfl⟩ : ∃ g, (grpF ss)[i]? = some g ∧ x = intsL g := by
      rw [List.getElem?_map] at hx
      cases q : (grpF ss)[i]? with
      | none => rw [q] at hx; cases hx
      | some n => rw [q] at hx; exact ⟨n, rfl, (Option.some.inj hx).symm⟩
    have gm : g ∈ grpF ss := List.mem_of_getElem? hg
    have tk : (grpF ss).take (i + 1) = (grpF ss).take i ++ [g] := by rw [List.take_succ, hg]; rfl
    refine ⟨_, _, tg_name, ?_⟩
    refine xs_asg (d := .int (_ + needF ss g)) (ev_add (ev_var rfl) (ev_max2 ev_int (ev_fdiv ((ev_lenL (evf_law_odd (ss := ss) (g := g) (ev_var rfl) (ev_var rfl) hs (grp_ok hs gm)).ev).is (by rw [List.length_map])) ev_int ⟨by decide, by decide⟩))) ⟨.d (intsL g), ?_⟩
    rw [tk, List.map_append, List.sum_append]
    simp only [List.map_cons, List.map_nil, List.sum_cons, List.sum_nil, Int.add_zero]
    rfl
  · rintro δ' ⟨s2, rfl⟩
    show Xs E _ [_, .d (.int (((grpF ss).take ((grpF ss).map intsL).length).map (needF ss)).sum), s2] _
    rw [List.length_map, List.take_length]
    exact xs_ret (ev_var rfl) rfl
end
end PL

/-! M4: the least number of chains by the numbers alone; what one stone more does to it. -/
namespace PL
open PySem L2
theorem snoc_ind {α : Type} {P : List α → Prop} (h0 : P []) (h1 : ∀ l a, P l → P (l ++ [a])) : ∀ l, P l := fun l => by
  have h : ∀ m : List α, P m.reverse := by
    intro m
    induction m with
    | nil => exact h0
    | cons a m ih => rw [List.reverse_cons]; exact h1 _ _ ih
  have := h l.reverse
  rwa [List.reverse_reverse] at this
theorem sum_perm {a b : List Int} (p : a.Perm b) : a.sum = b.sum := by
  induction p with
  | nil => rfl
  | cons x _ ih => rw [List.sum_cons, List.sum_cons, ih]
  | swap x y l => simp only [List.sum_cons]; omega
  | trans _ _ h1 h2 => rw [h1, h2]
def allE : List (Int × Int) → List Int
  | [] => []
  | s :: ss => s.1 :: s.2 :: allE ss
theorem allE_append : ∀ a b : List (Int × Int), allE (a ++ b) = allE a ++ allE b
  | [], _ => rfl
  | s :: a, b => by
    show _ :: _ :: allE (a ++ b) = _
    rw [allE_append a b]; rfl
theorem allE_mem {n : Int} : ∀ {ss : List (Int × Int)}, n ∈ allE ss ↔ ∃ s ∈ ss, s.1 = n ∨ s.2 = n
  | [] => by simp [allE]
  | s :: ss => by
    show n ∈ s.1 :: s.2 :: allE ss ↔ _
    rw [List.mem_cons, List.mem_cons, allE_mem]
    simp only [List.mem_cons, exists_eq_or_imp, or_assoc, eq_comm (a := n)]
def deg (ss : List (Int × Int)) (n : Int) : Nat := (allE ss).count n
def od (ss : List (Int × Int)) (n : Int) : Bool := decide (deg ss n % 2 = 1)
def oddc (ss : List (Int × Int)) (N : List Int) : Nat := (N.filter (od ss)).length
def vF (ss : List (Int × Int)) (N : List Int) : Int := max 1 ((oddc ss N : Int) / 2)
def sumV (ss : List (Int × Int)) (gs : List (List Int)) : Int := (gs.map (vF ss)).sum
def tnN (s : Int × Int) (N : List Int) : Bool := decide (s.1 ∈ N) || decide (s.2 ∈ N)
theorem tnN_iff {s : Int × Int} {N : List Int} : tnN s N = true ↔ s.1 ∈ N ∨ s.2 ∈ N := by
  unfold tnN
  rw [Bool.or_eq_true, decide_eq_true_eq, decide_eq_true_eq]
theorem tnN_no {s : Int × Int} {N : List Int} : tnN s N = false ↔ ¬ s.1 ∈ N ∧ ¬ s.2 ∈ N := by
  cases h : tnN s N with
  | true =>
    rcases tnN_iff.mp h with z | z
    · exact ⟨(fun e => nomatch e), fun e => absurd z e.1⟩
    · exact ⟨(fun e => nomatch e), fun e => absurd z e.2⟩
  | false => exact ⟨fun _ => ⟨(fun z => by rw [tnN_iff.mpr (.inl z)] at h; exact Bool.noConfusion h), (fun z => by rw [tnN_iff.mpr (.inr z)] at h; exact Bool.noConfusion h)⟩, fun _ => rfl⟩
def mrgN (s : Int × Int) (gs : List (List Int)) : List Int := (gs.filter (tnN s)).foldl ddA (ddA [] [s.1, s.2])
def joinN (gs : List (List Int)) (s : Int × Int) : List (List Int) := gs.filter (fun N => !tnN s N) ++ [mrgN s gs]
def NF (ss : List (Int × Int)) : List (List Int) := ss.foldl joinN []
theorem NF_snoc (ss : List (Int × Int)) (s : Int × Int) : NF (ss ++ [s]) = joinN (NF ss) s := by
  unfold NF
  rw [List.foldl_append]; rfl
theorem ddAl_mem {n : Int} : ∀ (l : List (List Int)) (a : List Int), n ∈ l.foldl ddA a ↔ n ∈ a ∨ ∃ N ∈ l, n ∈ N
  | [], a => by simp
  | g :: l, a => by
    rw [List.foldl_cons, ddAl_mem l, ddA_mem]
    simp only [List.mem_cons, exists_eq_or_imp, or_assoc]
theorem ddAl_nd : ∀ (l : List (List Int)) (a : List Int), a.Nodup → (l.foldl ddA a).Nodup
  | [], a, h => h
  | g :: l, a, h => ddAl_nd l _ (ddA_nd g a h)
theorem mrgN_mem {s : Int × Int} {gs : List (List Int)} {n : Int} : n ∈ mrgN s gs ↔ (n = s.1 ∨ n = s.2) ∨ ∃ N ∈ gs, tnN s N = true ∧ n ∈ N := by
  unfold mrgN
  rw [ddAl_mem, ddA_mem]
  simp only [List.mem_cons, List.not_mem_nil, or_false, false_or, List.mem_filter, and_assoc]
theorem mrgN_nd (s : Int × Int) (gs : List (List Int)) : (mrgN s gs).Nodup := ddAl_nd _ _ (ddA_nd _ _ .nil)
structure IsN (ss : List (Int × Int)) (gs : List (List Int)) : Prop where
  nd : ∀ N ∈ gs, N.Nodup
  ne : ∀ N ∈ gs, N ≠ []
  dj : gs.Pairwise fun a b => ∀ x, x ∈ a → ¬ x ∈ b
  cover : ∀ n, (∃ N ∈ gs, n ∈ N) ↔ n ∈ allE ss
  closed : ∀ N ∈ gs, ∀ s ∈ ss, s.1 ∈ N ↔ s.2 ∈ N
  conn : ∀ N ∈ gs, ∀ S : Int → Prop, (∀ s ∈ ss, S s.1 ↔ S s.2) → ∀ n ∈ N, ∀ m ∈ N, S n → S m
  ev : ∀ N ∈ gs, oddc ss N % 2 = 0
theorem dj_eqL {gs : List (List Int)} (h : gs.Pairwise fun a b => ∀ x, x ∈ a → ¬ x ∈ b) {a b : List Int} {x : Int} (ha : a ∈ gs) (hb : b ∈ gs) (h1 : x ∈ a) (h2 : x ∈ b) : a = b := by
  have h' : (gs.map id).Pairwise fun a b => ∀ x, x ∈ a → ¬ x ∈ b := by rw [List.map_id]; exact h
  exact dj_eq h' ha hb h1 h2
theorem od_none {ss : List (Int × Int)} {n : Int} (h : ¬ n ∈ allE ss) : od ss n = false := by
  unfold od deg
  rw [List.count_eq_zero_of_not_mem h]
  rfl
theorem deg_snoc (ss : List (Int × Int)) (s : Int × Int) (n : Int) : deg (ss ++ [s]) n = deg ss n + ((if s.1 = n then 1 else 0) + if s.2 = n then 1 else 0) := by
  unfold deg
  rw [allE_append, List.count_append]
  show _ + List.count n [s.1, s.2] = _
  simp only [List.count_cons, List.count_nil, beq_iff_eq, Nat.zero_add]
  omega
theorem od_same {ss : List (Int × Int)} {s : Int × Int} (e : s.1 = s.2) (n : Int) : od (ss ++ [s]) n = od ss n := by
  unfold od
  rw [deg_snoc, e]
  split <;> congr 1 <;> simp <;> omega
theorem od_off {ss : List (Int × Int)} {s : Int × Int} {n : Int} (h1 : s.1 ≠ n) (h2 : s.2 ≠ n) : od (ss ++ [s]) n = od ss n := by
  unfold od
  rw [deg_snoc, if_neg h1, if_neg h2]
  rfl
theorem od_tog {ss : List (Int × Int)} {s : Int × Int} (h : s.1 ≠ s.2) {n : Int} (hn : n = s.1 ∨ n = s.2) : od (ss ++ [s]) n = !od ss n := by
  have e : deg (ss ++ [s]) n = deg ss n + 1 := by
    rw [deg_snoc]
    rcases hn with e | e
    · subst e; simp [Ne.symm h]
    · subst e; simp [h]
  unfold od
  rw [e]
  by_cases c : deg ss n % 2 = 1
  · have c2 : ¬ (deg ss n + 1) % 2 = 1 := by omega
    simp [c, c2]
  · have c2 : (deg ss n + 1) % 2 = 1 := by omega
    simp [c, c2]
theorem filter_perm_len {N M : List Int} (p : N.Perm M) (f : Int → Bool) : (N.filter f).length = (M.filter f).length := (p.filter f).length_eq
theorem oddc_perm {ss : List (Int × Int)} {N M : List Int} (p : N.Perm M) : oddc ss N = oddc ss M := filter_perm_len p _
def bn (b : Bool) : Nat := if b then 1 else 0
theorem toggle {M : List Int} {a b : Int} {f f' : Int → Bool} (nd : M.Nodup) (ha : a ∈ M) (hb : b ∈ M) (ne : a ≠ b) (fa : f' a = !f a) (fb : f' b = !f b) (fn : ∀ n, n ≠ a → n ≠ b → f' n = f n) :
    (M.filter f').length + (bn (f a) + bn (f b)) = (M.filter f).length + (bn (!f a) + bn (!f b)) := by
  have hb2 : b ∈ M.erase a := (nd.mem_erase_iff).mpr ⟨Ne.symm ne, hb⟩
  have p : M.Perm (a :: b :: (M.erase a).erase b) := (List.perm_cons_erase ha).trans ((List.perm_cons_erase hb2).cons a)
  have n2 : (M.erase a).Nodup := nd.erase a
  have rest : ((M.erase a).erase b).filter f' = ((M.erase a).erase b).filter f := List.filter_congr fun n hn => by
    have h1 := (n2.mem_erase_iff).mp hn
    have h2 := (nd.mem_erase_iff).mp h1.2
    exact fn n h2.1 h1.1
  rw [filter_perm_len p f', filter_perm_len p f]
  simp only [List.filter_cons, fa, fb, rest]
  cases f a <;> cases f b <;> simp [bn] <;> omega
theorem sum_len (f : Int → Bool) : ∀ T : List (List Int), (T.flatten.filter f).length = (T.map fun N => (N.filter f).length).sum
  | [] => rfl
  | N :: T => by
    rw [List.flatten_cons, List.filter_append, List.length_append, sum_len f T]; rfl
theorem odd_mrg {ss : List (Int × Int)} {gs : List (List Int)} (h : IsN ss gs) (s : Int × Int) : oddc ss (mrgN s gs) = ((gs.filter (tnN s)).map (oddc ss)).sum := by
  have nd2 : (gs.filter (tnN s)).flatten.Nodup := by
    unfold List.Nodup
    rw [List.pairwise_flatten]
    refine ⟨fun l hl => h.nd l (List.mem_filter.mp hl).1, (h.dj.filter _).imp fun {a b} z x hx y hy e => ?_⟩
    subst e; exact z x hx hy
  have p : ((mrgN s gs).filter (od ss)).Perm ((gs.filter (tnN s)).flatten.filter (od ss)) := perm_of_mem ((mrgN_nd s gs).filter _) (nd2.filter _) fun n => by
    rw [List.mem_filter, List.mem_filter, mrgN_mem, List.mem_flatten]
    simp only [List.mem_filter]
    have key : ∀ {n}, od ss n = true → (n = s.1 ∨ n = s.2) → ∃ N ∈ gs, tnN s N = true ∧ n ∈ N := fun {n} ho hn => by
      have hm : n ∈ allE ss := by
        by_cases c : n ∈ allE ss
        · exact c
        · rw [od_none c] at ho; cases ho
      obtain ⟨N, hN, hn2⟩ := (h.cover n).mpr hm
      refine ⟨N, hN, tnN_iff.mpr ?_, hn2⟩
      rcases hn with e | e
      · rw [← e]; exact .inl hn2
      · rw [← e]; exact .inr hn2
    constructor
    · rintro ⟨z | ⟨N, h1, h2, h3⟩, ho⟩
      · obtain ⟨N, h1, h2, h3⟩ := key ho z
        exact ⟨⟨N, ⟨h1, h2⟩, h3⟩, ho⟩
      · exact ⟨⟨N, ⟨h1, h2⟩, h3⟩, ho⟩
    · rintro ⟨⟨N, ⟨h1, h2⟩, h3⟩, ho⟩
      exact ⟨.inr ⟨N, h1, h2, h3⟩, ho⟩
  show ((mrgN s gs).filter (od ss)).length = _
  rw [p.length_eq, sum_len]
  rfl
theorem odd_mrg2 {ss : List (Int × Int)} {gs : List (List Int)} (s : Int × Int) (e : s.1 = s.2) : oddc (ss ++ [s]) (mrgN s gs) = oddc ss (mrgN s gs) := by
  unfold oddc
  rw [List.filter_congr fun n _ => od_same e n]
theorem odd_mrg3 {ss : List (Int × Int)} {gs : List (List Int)} (s : Int × Int) (e : s.1 ≠ s.2) : oddc (ss ++ [s]) (mrgN s gs) + (bn (od ss s.1) + bn (od ss s.2)) = oddc ss (mrgN s gs) + (bn (!od ss s.1) + bn (!od ss s.2)) :=
  toggle (mrgN_nd s gs) (mrgN_mem.mpr (.inl (.inl rfl))) (mrgN_mem.mpr (.inl (.inr rfl))) e (od_tog e (.inl rfl)) (od_tog e (.inr rfl)) fun n h1 h2 => od_off (Ne.symm h1) (Ne.symm h2)
theorem sum_even : ∀ {l : List Nat}, (∀ x ∈ l, x % 2 = 0) → l.sum % 2 = 0
  | [], _ => rfl
  | x :: l, h => by
    have h1 := h x List.mem_cons_self
    have h2 := sum_even fun y hy => h y (List.mem_cons_of_mem _ hy)
    rw [List.sum_cons]; omega
theorem oddc_off {ss : List (Int × Int)} {s : Int × Int} {N : List Int} (h : tnN s N = false) : oddc (ss ++ [s]) N = oddc ss N := by
  obtain ⟨h1, h2⟩ := tnN_no.mp h
  unfold oddc
  rw [List.filter_congr fun n hn => od_off (fun e => h1 (by rw [e]; exact hn)) (fun e => h2 (by rw [e]; exact hn))]
theorem isN_join {ss : List (Int × Int)} {gs : List (List Int)} (h : IsN ss gs) (s : Int × Int) : IsN (ss ++ [s]) (joinN gs s) := by
  have mem : ∀ {N}, N ∈ joinN gs s ↔ (N ∈ gs ∧ tnN s N = false) ∨ N = mrgN s gs := fun {N} => by
    unfold joinN
    rw [List.mem_append, List.mem_filter, List.mem_singleton]
    simp
  have sin : ∀ {t}, t ∈ ss ++ [s] ↔ t ∈ ss ∨ t = s := fun {t} => by simp
  have ain : ∀ {n}, n ∈ allE (ss ++ [s]) ↔ n ∈ allE ss ∨ (n = s.1 ∨ n = s.2) := fun {n} => by
    rw [allE_append, List.mem_append]
    show _ ∨ n ∈ [s.1, s.2] ↔ _
    simp
  -- a number of an old stone that lies in the merged group lies in one that is touched
  have old : ∀ {n}, n ∈ allE ss → n ∈ mrgN s gs → ∃ N ∈ gs, tnN s N = true ∧ n ∈ N := fun {n} hn hm => by
    rcases mrgN_mem.mp hm with e | z
    · obtain ⟨N, hN, hn2⟩ := (h.cover n).mpr hn
      refine ⟨N, hN, tnN_iff.mpr ?_, hn2⟩
      rcases e with e | e
      · rw [← e]; exact .inl hn2
      · rw [← e]; exact .inr hn2
    · exact z
  refine ⟨fun N hN => ?_, fun N hN => ?_, ?_, fun n => ?_, fun N hN t ht => ?_, fun N hN S go n hn m hm sn => ?_, fun N hN => ?_⟩
  · rcases mem.mp hN with ⟨z, _⟩ | rfl
    · exact h.nd N z
    · exact mrgN_nd s gs
  · rcases mem.mp hN with ⟨z, _⟩ | rfl
    · exact h.ne N z
    · intro e
      have : s.1 ∈ mrgN s gs := mrgN_mem.mpr (.inl (.inl rfl))
      rw [e] at this; cases this
  · unfold joinN
    rw [List.pairwise_append]
    refine ⟨h.dj.filter _, List.pairwise_singleton _ _, fun a ha b hb x hx hy => ?_⟩
    rw [List.mem_singleton] at hb
    subst hb
    obtain ⟨h1, h2⟩ := List.mem_filter.mp ha
    have h2 : tnN s a = false := by simpa using h2
    obtain ⟨N, h3, h4, h5⟩ := old ((h.cover x).mp ⟨a, h1, hx⟩) hy
    have := dj_eqL h.dj h1 h3 hx h5
    subst this
    rw [h2] at h4; cases h4
  · rw [ain, ← h.cover n]
    constructor
    · rintro ⟨N, hN, hn⟩
      rcases mem.mp hN with ⟨z, _⟩ | rfl
      · exact .inl ⟨N, z, hn⟩
      · rcases mrgN_mem.mp hn with e | ⟨N, h1, _, h3⟩
        · exact .inr e
        · exact .inl ⟨N, h1, h3⟩
    · rintro (⟨N, hN, hn⟩ | e)
      · cases ht : tnN s N with
        | true => exact ⟨_, mem.mpr (.inr rfl), mrgN_mem.mpr (.inr ⟨N, hN, ht, hn⟩)⟩
        | false => exact ⟨N, mem.mpr (.inl ⟨hN, ht⟩), hn⟩
      · exact ⟨_, mem.mpr (.inr rfl), mrgN_mem.mpr (.inl e)⟩
  · rcases mem.mp hN with ⟨z, z2⟩ | rfl
    · rcases sin.mp ht with t1 | rfl
      · exact h.closed N z t t1
      · obtain ⟨n1, n2⟩ := tnN_no.mp z2
        exact ⟨fun e => absurd e n1, fun e => absurd e n2⟩
    · rcases sin.mp ht with t1 | rfl
      · constructor
        · intro hm
          obtain ⟨N, h1, h2, h3⟩ := old (allE_mem.mpr ⟨t, t1, .inl rfl⟩) hm
          exact mrgN_mem.mpr (.inr ⟨N, h1, h2, (h.closed N h1 t t1).mp h3⟩)
        · intro hm
          obtain ⟨N, h1, h2, h3⟩ := old (allE_mem.mpr ⟨t, t1, .inr rfl⟩) hm
          exact mrgN_mem.mpr (.inr ⟨N, h1, h2, (h.closed N h1 t t1).mpr h3⟩)
      · exact ⟨fun _ => mrgN_mem.mpr (.inl (.inr rfl)), fun _ => mrgN_mem.mpr (.inl (.inl rfl))⟩
  · have go' : ∀ t ∈ ss, S t.1 ↔ S t.2 := fun t ht => go t (sin.mpr (.inl ht))
    rcases mem.mp hN with ⟨z, _⟩ | rfl
    · exact h.conn N z S go' n hn m hm sn
    · have ab := go s (sin.mpr (.inr rfl))
      have key : ∀ {x}, x ∈ mrgN s gs → (S x ↔ S s.1) := fun {x} hx => by
        rcases mrgN_mem.mp hx with (e | e) | ⟨N, h1, h2, h3⟩
        · rw [e]
        · rw [e]; exact ab.symm
        · rcases tnN_iff.mp h2 with q | q
          · exact ⟨h.conn N h1 S go' x h3 _ q, h.conn N h1 S go' _ q x h3⟩
          · rw [ab]
            exact ⟨h.conn N h1 S go' x h3 _ q, h.conn N h1 S go' _ q x h3⟩
      exact (key hm).mpr ((key hn).mp sn)
  · rcases mem.mp hN with ⟨z, z2⟩ | rfl
    · rw [oddc_off z2]; exact h.ev N z
    · have e0 : oddc ss (mrgN s gs) % 2 = 0 := by
        rw [odd_mrg h]
        refine sum_even fun x hx => ?_
        obtain ⟨N, hN, rfl⟩ := List.mem_map.mp hx
        exact h.ev N (List.mem_filter.mp hN).1
      by_cases e : s.1 = s.2
      · rw [odd_mrg2 s e]; exact e0
      · have := odd_mrg3 (ss := ss) (gs := gs) s e
        cases c1 : od ss s.1 <;> cases c2 : od ss s.2 <;> rw [c1, c2] at this <;> simp only [bn, Bool.not_true, Bool.not_false, if_true, if_neg Bool.false_ne_true] at this <;> omega
theorem NF_is : ∀ ss, IsN ss (NF ss) := snoc_ind ⟨by simp [NF], by simp [NF], by simp [NF], by simp [NF, allE], by simp [NF], by simp [NF], by simp [NF]⟩ fun ss s h => by
  rw [NF_snoc]; exact isN_join h s

/-! ### the least number, and one stone more -/
theorem sumV_filter (ss : List (Int × Int)) (p : List Int → Bool) : ∀ gs : List (List Int), sumV ss gs = sumV ss (gs.filter p) + sumV ss (gs.filter fun N => !p N)
  | [] => rfl
  | N :: gs => by
    have ih := sumV_filter ss p gs
    unfold sumV at ih ⊢
    cases h : p N <;> simp [h] <;> omega
theorem sumV_join {ss : List (Int × Int)} {gs : List (List Int)} (s : Int × Int) : sumV (ss ++ [s]) (joinN gs s) = sumV ss (gs.filter fun N => !tnN s N) + vF (ss ++ [s]) (mrgN s gs) := by
  unfold joinN sumV
  rw [List.map_append, List.sum_append]
  congr 1
  · congr 1
    refine List.map_congr_left fun N hN => ?_
    have := (List.mem_filter.mp hN).2
    unfold vF
    rw [oddc_off (by simpa using this)]
  · simp
theorem touched_shape {ss : List (Int × Int)} {gs : List (List Int)} (h : IsN ss gs) (s : Int × Int) : gs.filter (tnN s) = [] ∨ (∃ N, gs.filter (tnN s) = [N]) ∨ ∃ N M, gs.filter (tnN s) = [N, M] ∧ ((s.1 ∈ N ∧ s.2 ∈ M) ∨ (s.2 ∈ N ∧ s.1 ∈ M)) ∧ s.1 ≠ s.2 := by
  have dj := h.dj.filter (tnN s)
  have tn : ∀ N ∈ gs.filter (tnN s), s.1 ∈ N ∨ s.2 ∈ N := fun N hN => tnN_iff.mp (List.mem_filter.mp hN).2
  match gs.filter (tnN s), dj, tn with
  | [], _, _ => exact .inl rfl
  | [N], _, _ => exact .inr (.inl ⟨N, rfl⟩)
  | [N, M], dj, tn =>
    have d : ∀ x, x ∈ N → ¬ x ∈ M := (List.pairwise_cons.mp dj).1 M List.mem_cons_self
    have t1 := tn N List.mem_cons_self
    have t2 := tn M (List.mem_cons_of_mem _ List.mem_cons_self)
    refine .inr (.inr ⟨N, M, rfl, ?_⟩)
    rcases t1 with a | a
    · rcases t2 with b | b
      · exact absurd b (d _ a)
      · exact ⟨.inl ⟨a, b⟩, fun e => d _ a (by rw [e]; exact b)⟩
    · rcases t2 with b | b
      · exact ⟨.inr ⟨a, b⟩, fun e => d _ a (by rw [← e]; exact b)⟩
      · exact absurd b (d _ a)
  | N :: M :: P :: r, dj, tn =>
    obtain ⟨d1, d2⟩ := List.pairwise_cons.mp dj
    obtain ⟨d3, _⟩ := List.pairwise_cons.mp d2
    have nm := d1 M (by simp)
    have np := d1 P (by simp)
    have mp := d3 P (by simp)
    have t1 := tn N (by simp)
    have t2 := tn M (by simp)
    have t3 := tn P (by simp)
    rcases t1 with a | a <;> rcases t2 with b | b <;> rcases t3 with c | c
    · exact absurd b (nm _ a)
    · exact absurd b (nm _ a)
    · exact absurd c (np _ a)
    · exact absurd c (mp _ b)
    · exact absurd c (mp _ b)
    · exact absurd c (np _ a)
    · exact absurd b (nm _ a)
    · exact absurd b (nm _ a)
theorem odd_pos {ss : List (Int × Int)} {N : List Int} {n : Int} (h : n ∈ N) (ho : od ss n = true) : 1 ≤ oddc ss N := List.length_pos_of_mem (List.mem_filter.mpr ⟨h, ho⟩)
theorem few_step {ss : List (Int × Int)} {gs : List (List Int)} (h : IsN ss gs) (s : Int × Int) : -1 ≤ sumV (ss ++ [s]) (joinN gs s) - sumV ss gs ∧ sumV (ss ++ [s]) (joinN gs s) - sumV ss gs ≤ 1 := by
  have e1 := sumV_join (ss := ss) (gs := gs) s
  have e2 := sumV_filter ss (tnN s) gs
  have e3 := odd_mrg h s
  have ev : ∀ N ∈ gs.filter (tnN s), oddc ss N % 2 = 0 := fun N hN => h.ev N (List.mem_filter.mp hN).1
  have e4 : s.1 = s.2 → oddc (ss ++ [s]) (mrgN s gs) = oddc ss (mrgN s gs) := odd_mrg2 s
  have e5 : s.1 ≠ s.2 → oddc (ss ++ [s]) (mrgN s gs) + (bn (od ss s.1) + bn (od ss s.2)) = oddc ss (mrgN s gs) + (bn (!od ss s.1) + bn (!od ss s.2)) := odd_mrg3 s
  rw [e1, e2]
  rcases touched_shape h s with t | ⟨N, t⟩ | ⟨N, M, t, hab, ne⟩
  · rw [t] at e3 ⊢
    simp only [List.map_nil, List.sum_nil, sumV] at e3 ⊢
    unfold vF
    by_cases e : s.1 = s.2
    · have := e4 e; omega
    · have := e5 e
      cases c1 : od ss s.1 <;> cases c2 : od ss s.2 <;> rw [c1, c2] at this <;> simp only [bn, Bool.not_true, Bool.not_false, if_true, if_neg Bool.false_ne_true] at this <;> omega
  · rw [t] at e3 ev ⊢
    have o := ev N List.mem_cons_self
    simp only [List.map_cons, List.map_nil, List.sum_cons, List.sum_nil, sumV, Nat.add_zero, Int.add_zero] at e3 ⊢
    unfold vF
    by_cases e : s.1 = s.2
    · have := e4 e; omega
    · have := e5 e
      cases c1 : od ss s.1 <;> cases c2 : od ss s.2 <;> rw [c1, c2] at this <;> simp only [bn, Bool.not_true, Bool.not_false, if_true, if_neg Bool.false_ne_true] at this <;> omega
  · rw [t] at e3 ev ⊢
    have o1 := ev N List.mem_cons_self
    have o2 := ev M (by simp)
    simp only [List.map_cons, List.map_nil, List.sum_cons, List.sum_nil, sumV, Nat.add_zero, Int.add_zero] at e3 ⊢
    unfold vF
    have q := e5 ne
    have p1 : (od ss s.1 = true → s.1 ∈ N → 1 ≤ oddc ss N) := fun a b => odd_pos b a
    have p2 : (od ss s.1 = true → s.1 ∈ M → 1 ≤ oddc ss M) := fun a b => odd_pos b a
    have p3 : (od ss s.2 = true → s.2 ∈ N → 1 ≤ oddc ss N) := fun a b => odd_pos b a
    have p4 : (od ss s.2 = true → s.2 ∈ M → 1 ≤ oddc ss M) := fun a b => odd_pos b a
    rcases hab with ⟨a1, a2⟩ | ⟨a1, a2⟩
    · have p1 := fun a => p1 a a1
      have p4 := fun a => p4 a a2
      cases c1 : od ss s.1 <;> cases c2 : od ss s.2 <;> simp [bn, c1, c2] at q p1 p4 <;> omega
    · have p3 := fun a => p3 a a1
      have p2 := fun a => p2 a a2
      cases c1 : od ss s.1 <;> cases c2 : od ss s.2 <;> simp [bn, c1, c2] at q p2 p3 <;> omega
theorem few_apart {ss : List (Int × Int)} {gs : List (List Int)} (h : IsN ss gs) (s : Int × Int) (h1 : ¬ s.1 ∈ allE ss) (h2 : ¬ s.2 ∈ allE ss) : sumV (ss ++ [s]) (joinN gs s) = sumV ss gs + 1 := by
  have t : gs.filter (tnN s) = [] := List.filter_eq_nil_iff.mpr fun N hN z => by
    rcases tnN_iff.mp z with q | q
    · exact h1 ((h.cover _).mp ⟨N, hN, q⟩)
    · exact h2 ((h.cover _).mp ⟨N, hN, q⟩)
  have e1 := sumV_join (ss := ss) (gs := gs) s
  have e2 := sumV_filter ss (tnN s) gs
  have e3 := odd_mrg h s
  rw [e1, e2]
  rw [t] at e3 ⊢
  simp only [List.map_nil, List.sum_nil, sumV] at e3 ⊢
  have q : vF (ss ++ [s]) (mrgN s gs) = 1 := by
    unfold vF
    by_cases e : s.1 = s.2
    · have := odd_mrg2 (ss := ss) (gs := gs) s e; omega
    · have := odd_mrg3 (ss := ss) (gs := gs) s e
      rw [od_none h1, od_none h2] at this
      simp [bn] at this
      omega
  rw [q]
  show _ + (1 : Int) = 0 + _ + 1
  omega
theorem few_double {ss : List (Int × Int)} {gs : List (List Int)} (h : IsN ss gs) (s : Int × Int) (e : s.1 = s.2) (h1 : s.1 ∈ allE ss) : sumV (ss ++ [s]) (joinN gs s) = sumV ss gs := by
  have e1 := sumV_join (ss := ss) (gs := gs) s
  have e2 := sumV_filter ss (tnN s) gs
  have e3 := odd_mrg h s
  have e4 := odd_mrg2 (ss := ss) (gs := gs) s e
  obtain ⟨N, hN, hn⟩ := (h.cover _).mpr h1
  have hin : N ∈ gs.filter (tnN s) := List.mem_filter.mpr ⟨hN, tnN_iff.mpr (.inl hn)⟩
  rw [e1, e2]
  rcases touched_shape h s with t | ⟨M, t⟩ | ⟨M, P, t, hab, ne⟩
  · rw [t] at hin; cases hin
  · rw [t] at e3 ⊢
    simp only [List.map_cons, List.map_nil, List.sum_cons, List.sum_nil, sumV, Nat.add_zero, Int.add_zero] at e3 ⊢
    have q : vF (ss ++ [s]) (mrgN s gs) = vF ss M := by unfold vF; rw [e4, e3]
    rw [q]
    omega
  · exact absurd e ne

/-! ### the order of the stones, and how they are turned, does not matter -/
structure Sim (ss tt : List (Int × Int)) : Prop where
  dg : ∀ n, deg ss n = deg tt n
  l : ∀ s ∈ ss, s ∈ tt ∨ (s.2, s.1) ∈ tt
  r : ∀ s ∈ tt, s ∈ ss ∨ (s.2, s.1) ∈ ss
theorem Sim.all {ss tt : List (Int × Int)} (h : Sim ss tt) (n : Int) : n ∈ allE ss ↔ n ∈ allE tt := by
  have := h.dg n
  unfold deg at this
  rw [← List.count_pos_iff, ← List.count_pos_iff, this]
theorem Sim.od {ss tt : List (Int × Int)} (h : Sim ss tt) : od ss = od tt := by
  funext n
  unfold PL.od
  rw [h.dg n]
theorem IsN.sim {ss tt : List (Int × Int)} {gs : List (List Int)} (h : IsN ss gs) (m : Sim ss tt) : IsN tt gs := by
  refine ⟨h.nd, h.ne, h.dj, fun n => (h.cover n).trans (m.all n), fun N hN s hs => ?_, fun N hN S go => h.conn N hN S fun s hs => ?_, fun N hN => ?_⟩
  · rcases m.r s hs with z | z
    · exact h.closed N hN s z
    · exact (h.closed N hN _ z).symm
  · rcases m.l s hs with z | z
    · exact go s z
    · exact (go _ z).symm
  · unfold oddc
    rw [← m.od]
    exact h.ev N hN
theorem IsN.half {ss : List (Int × Int)} {a b : List (List Int)} (ha : IsN ss a) (hb : IsN ss b) {N : List Int} (hN : N ∈ a) : ∃ M ∈ b, ∀ n, n ∈ N ↔ n ∈ M := by
  have h0 := hd_mem (ha.ne N hN)
  obtain ⟨M, hM, h2⟩ := (hb.cover _).mpr ((ha.cover _).mp ⟨N, hN, h0⟩)
  exact ⟨M, hM, fun n => ⟨fun hx => ha.conn N hN (· ∈ M) (hb.closed M hM) _ h0 n hx h2, fun hx => hb.conn M hM (· ∈ N) (ha.closed N hN) _ h2 n hx h0⟩⟩
theorem isort_ext {a b : List Int} (ha : a.Nodup) (hb : b.Nodup) (h : ∀ x, x ∈ a ↔ x ∈ b) : isort a = isort b := rise_ext (isort_nd ha) (isort_nd hb) fun x => isort_mem.trans ((h x).trans isort_mem.symm)
theorem ordG_mem {gs : List (List Int)} {g : List Int} : g ∈ ordG gs ↔ ∃ a ∈ gs, isort a = g := (hsort_perm _).mem_iff.trans List.mem_map
theorem isN_ord {ss : List (Int × Int)} {a b : List (List Int)} (ha : IsN ss a) (hb : IsN ss b) : ordG a = ordG b := by
  refine strict_unique (R := fun a b => hd a < hd b) (fun _ => Int.lt_irrefl _) (fun _ _ _ => Int.lt_trans) (hsort_rise _ (dj_heads ha.ne ha.dj)) (hsort_rise _ (dj_heads hb.ne hb.dj)) fun x => ?_
  show x ∈ ordG a ↔ x ∈ ordG b
  rw [ordG_mem, ordG_mem]
  constructor
  · rintro ⟨N, hN, rfl⟩
    obtain ⟨M, hM, e⟩ := ha.half hb hN
    exact ⟨M, hM, isort_ext (hb.nd M hM) (ha.nd N hN) fun n => (e n).symm⟩
  · rintro ⟨N, hN, rfl⟩
    obtain ⟨M, hM, e⟩ := hb.half ha hN
    exact ⟨M, hM, isort_ext (ha.nd M hM) (hb.nd N hN) fun n => (e n).symm⟩
theorem sumV_ord (ss : List (Int × Int)) (gs : List (List Int)) : sumV ss (ordG gs) = sumV ss gs := by
  unfold sumV ordG
  rw [sum_perm ((hsort_perm (gs.map isort)).map (vF ss)), List.map_map]
  congr 1
  refine List.map_congr_left fun N _ => ?_
  show vF ss (isort N) = vF ss N
  unfold vF
  rw [oddc_perm (isort_perm N)]
theorem sumV_unique {ss tt : List (Int × Int)} {a b : List (List Int)} (m : Sim ss tt) (ha : IsN ss a) (hb : IsN tt b) : sumV ss a = sumV tt b := by
  have h1 := isN_ord (ha.sim m) hb
  rw [← sumV_ord tt b, ← h1, sumV_ord]
  unfold sumV vF oddc
  rw [m.od]
end PL

/-! M5: the least number told is the one by the numbers alone. -/
namespace PL
open PySem L2
theorem snd_join (found : List Grp) (k : Int) (s : Int × Int) : (joinF found k s).map Prod.snd = joinN (found.map Prod.snd) s := by
  have f1 : ∀ l : List Grp, (l.map Prod.snd).filter (tnN s) = (l.filter (tchB s)).map Prod.snd := fun l => by rw [List.filter_map]; rfl
  have f2 : ∀ l : List Grp, (l.map Prod.snd).filter (fun N => !tnN s N) = (l.filter fun g => !tchB s g).map Prod.snd := fun l => by rw [List.filter_map]; rfl
  unfold joinF joinN
  rw [List.map_append, f2]
  congr 1
  show [jN s found] = [mrgN s _]
  unfold jN mrgN
  rw [f1, List.foldl_map]
theorem snd_found (ss : List (Int × Int)) : ∀ m, m ≤ ss.length → (foundF ss m).map Prod.snd = NF (ss.take m)
  | 0, _ => by rw [List.take_zero]; rfl
  | m + 1, h => by
    have e : ss.take (m + 1) = ss.take m ++ [stAt ss (m : Int)] := by
      have hm : m < ss.length := by omega
      rw [List.take_succ, List.getElem?_eq_getElem hm]
      unfold stAt
      rw [Int.toNat_natCast, List.getD_eq_getElem?_getD, List.getElem?_eq_getElem hm]
      rfl
    show (joinF (foundF ss m) (m : Int) (stAt ss (m : Int))).map Prod.snd = _
    rw [snd_join, snd_found ss m (by omega), e, NF_snoc]
/-- how often n stands at the stone's ends -/
def cE (n : Int) (s : Int × Int) : Nat := (if s.1 = n then 1 else 0) + if s.2 = n then 1 else 0
theorem cnt_ends (ss : List (Int × Int)) (n : Int) : ∀ g : List Int, (endsF ss g).count n = (g.map fun i => cE n (stAt ss i)).sum
  | [] => rfl
  | i :: g => by
    show List.count n ((stAt ss i).1 :: (stAt ss i).2 :: endsF ss g) = _
    rw [List.map_cons, List.sum_cons, List.count_cons, List.count_cons, cnt_ends ss n g]
    simp only [beq_iff_eq, cE]
    omega
theorem cnt_all (n : Int) : ∀ ss : List (Int × Int), deg ss n = (ss.map (cE n)).sum
  | [] => rfl
  | s :: ss => by
    have ih := cnt_all n ss
    unfold deg at ih ⊢
    show List.count n (_ :: _ :: allE ss) = _
    rw [List.map_cons, List.sum_cons, List.count_cons, List.count_cons, ih]
    simp only [beq_iff_eq, cE]
    omega
theorem range_map (ss : List (Int × Int)) : ((List.range ss.length).map fun (k : Nat) => stAt ss (k : Int)) = ss := by
  apply List.ext_getElem
  · simp
  · intro i h1 h2
    rw [List.getElem_map, List.getElem_range]
    unfold stAt
    rw [Int.toNat_natCast, List.getD_eq_getElem?_getD, List.getElem?_eq_getElem h2]
    rfl
theorem sumN_perm {a b : List Nat} (p : a.Perm b) : a.sum = b.sum := by
  induction p with
  | nil => rfl
  | cons x _ ih => rw [List.sum_cons, List.sum_cons, ih]
  | swap x y l => simp only [List.sum_cons]; omega
  | trans _ _ h1 h2 => rw [h1, h2]
theorem sum_split {α : Type} (f : α → Nat) (p : α → Bool) : ∀ l : List α, (∀ x ∈ l, p x = false → f x = 0) → (l.map f).sum = ((l.filter p).map f).sum
  | [], _ => rfl
  | x :: l, h => by
    have ih := sum_split f p l fun y hy => h y (List.mem_cons_of_mem _ hy)
    cases c : p x with
    | true => simp [c, ih]
    | false => simp [c, ih, h x List.mem_cons_self c]
/-- within a group each of its numbers stands as often as among all the stones -/
theorem cnt_group {ss : List (Int × Int)} {found : List Grp} (h : IsCo ss (ss.length : Int) (found.map Prod.fst)) (hn : Nums ss found) {g : Grp} (hg : g ∈ found) {n : Int} (hm : n ∈ g.2) : (endsF ss (isort g.1)).count n = deg ss n := by
  have inF : g.1 ∈ found.map Prod.fst := List.mem_map.mpr ⟨g, hg, rfl⟩
  have nd := h.nd _ inF
  have lt : ∀ {i : Int}, i ∈ g.1 → 0 ≤ i ∧ i < (ss.length : Int) := fun {i} hi => (h.cover i).mp ⟨g.1, inF, hi⟩
  rw [cnt_ends, cnt_all]
  have e1 : (ss.map (cE n)).sum = (((List.range ss.length).map fun (k : Nat) => (k : Int)).map fun i => cE n (stAt ss i)).sum := by
    rw [List.map_map]
    have := congrArg (fun l => (l.map (cE n)).sum) (range_map ss)
    simp only [List.map_map] at this
    exact this.symm
  rw [e1, sum_split (fun i => cE n (stAt ss i)) (fun i => decide (i ∈ g.1)) ((List.range ss.length).map fun (k : Nat) => (k : Int))]
  · refine sumN_perm (List.Perm.map _ ((isort_perm g.1).trans (perm_of_mem nd ?_ fun i => ?_)))
    · refine List.Pairwise.filter _ ?_
      rw [List.pairwise_map]
      exact List.pairwise_lt_range.imp fun h => by omega
    · rw [List.mem_filter, List.mem_map]
      constructor
      · intro hi
        have := lt hi
        exact ⟨⟨i.toNat, List.mem_range.mpr (by omega), by omega⟩, by simpa using hi⟩
      · rintro ⟨_, hi⟩
        simpa using hi
  · intro i hi hc
    obtain ⟨k, hk, rfl⟩ := List.mem_map.mp hi
    have hk := List.mem_range.mp hk
    have hc : ¬ (k : Int) ∈ g.1 := by simpa using hc
    obtain ⟨j, hj, hjn⟩ := (hn g hg n).mp hm
    have no : ¬ hasN ss (k : Int) n := fun z => hc (h.closed _ inF j hj (k : Int) (by omega) (by omega) ⟨n, hjn, z⟩)
    unfold hasN at no
    unfold cE
    rw [if_neg fun e => no (.inl e), if_neg fun e => no (.inr e)]
theorem odd_group {ss : List (Int × Int)} {found : List Grp} (h : IsCo ss (ss.length : Int) (found.map Prod.fst)) (hn : Nums ss found) {g : Grp} (hg : g ∈ found) (nd : g.2.Nodup) : (oddF ss (isort g.1)).length = oddc ss g.2 := by
  unfold oddF oddc
  rw [(isort_perm _).length_eq]
  refine (perm_of_mem ((dd_nd _).filter _) (nd.filter _) fun n => ?_).length_eq
  rw [List.mem_filter, List.mem_filter, dd_mem, ends_mem]
  have e : n ∈ g.2 ↔ ∃ i ∈ isort g.1, hasN ss i n := by
    rw [hn g hg n]
    constructor
    · rintro ⟨i, a, b⟩; exact ⟨i, isort_mem.mpr a, b⟩
    · rintro ⟨i, a, b⟩; exact ⟨i, isort_mem.mp a, b⟩
  rw [← e]
  constructor
  · rintro ⟨a, b⟩
    refine ⟨a, ?_⟩
    unfold oddB at b
    unfold od
    rw [cnt_group h hn hg a, decide_eq_true_eq] at b
    exact decide_eq_true (by omega)
  · rintro ⟨a, b⟩
    refine ⟨a, ?_⟩
    unfold oddB
    unfold od at b
    rw [decide_eq_true_eq] at b
    rw [cnt_group h hn hg a]
    exact decide_eq_true (by omega)
theorem few_is (ss : List (Int × Int)) : fewF ss = sumV ss (NF ss) := by
  obtain ⟨h, hn⟩ := found_ok ss ss.length
  have e := snd_found ss ss.length (Nat.le_refl _)
  rw [List.take_length] at e
  have isn := NF_is ss
  unfold fewF grpF ordG
  rw [sum_perm ((hsort_perm _).map (needF ss)), ← e]
  unfold sumV
  rw [List.map_map, List.map_map, List.map_map]
  congr 1
  refine List.map_congr_left fun g hg => ?_
  show needF ss (isort g.1) = vF ss g.2
  unfold needF vF
  rw [odd_group h hn hg (isn.nd g.2 (by rw [← e]; exact List.mem_map.mpr ⟨g, hg, rfl⟩))]
theorem few_sim {ss tt : List (Int × Int)} (m : Sim ss tt) : fewF ss = fewF tt := by
  rw [few_is, few_is]
  exact sumV_unique m (NF_is ss) (NF_is tt)
theorem perm_sim {ss tt : List (Int × Int)} (p : ss.Perm tt) : Sim ss tt := by
  refine ⟨fun n => ?_, fun s hs => .inl (p.mem_iff.mp hs), fun s hs => .inl (p.mem_iff.mpr hs)⟩
  rw [cnt_all, cnt_all]
  exact sumN_perm (p.map _)
theorem few_snoc (ss : List (Int × Int)) (s : Int × Int) : -1 ≤ fewF (ss ++ [s]) - fewF ss ∧ fewF (ss ++ [s]) - fewF ss ≤ 1 := by
  rw [few_is, few_is, NF_snoc]
  exact few_step (NF_is ss) s
theorem few_mid (a b : List (Int × Int)) (s : Int × Int) : -1 ≤ fewF (a ++ s :: b) - fewF (a ++ b) ∧ fewF (a ++ s :: b) - fewF (a ++ b) ≤ 1 := by
  have p : (a ++ s :: b).Perm ((a ++ b) ++ [s]) := List.perm_middle.trans (List.perm_append_singleton s (a ++ b)).symm
  rw [few_sim (perm_sim p)]
  exact few_snoc _ s
theorem few_new (ss : List (Int × Int)) (s : Int × Int) (h1 : ¬ s.1 ∈ allE ss) (h2 : ¬ s.2 ∈ allE ss) : fewF (ss ++ [s]) = fewF ss + 1 := by
  rw [few_is, few_is, NF_snoc]
  exact few_apart (NF_is ss) s h1 h2
theorem few_dbl (ss : List (Int × Int)) (n : Int) (h : n ∈ allE ss) : fewF (ss ++ [(n, n)]) = fewF ss := by
  rw [few_is, few_is, NF_snoc]
  exact few_double (NF_is ss) (n, n) rfl h
theorem fewF_nil : fewF [] = 0 := rfl
/-- stones no number of which stands elsewhere -/
theorem few_more (ss : List (Int × Int)) : ∀ more : List (Int × Int), (allE more).Nodup → (∀ n ∈ allE more, ¬ n ∈ allE ss) → fewF (ss ++ more) = fewF ss + more.length := by
  refine snoc_ind (fun _ _ => by simp) fun l s ih nd off => ?_
  rw [allE_append] at nd off
  obtain ⟨n1, n2, n3⟩ := List.nodup_append.mp nd
  rw [← List.append_assoc, few_new, ih n1 fun n hn => off n (List.mem_append_left _ hn)]
  · simp; omega
  · rw [allE_append]
    intro h
    rcases List.mem_append.mp h with h | h
    · exact off s.1 (List.mem_append_right _ (by show s.1 ∈ [s.1, s.2]; simp)) h
    · exact n3 s.1 h s.1 (by show s.1 ∈ [s.1, s.2]; simp) rfl
  · rw [allE_append]
    intro h
    rcases List.mem_append.mp h with h | h
    · exact off s.2 (List.mem_append_right _ (by show s.2 ∈ [s.1, s.2]; simp)) h
    · exact n3 s.2 h s.2 (by show s.2 ∈ [s.1, s.2]; simp) rfl
/-- some stones turned -/
theorem turn_sim (t : Nat → Bool) : ∀ (ss : List (Int × Int)), Sim ss (ss.mapIdx fun i s => if t i then (s.2, s.1) else s) := fun ss => by
  have mem : ∀ s, s ∈ (ss.mapIdx fun i s => if t i then (s.2, s.1) else s) → s ∈ ss ∨ (s.2, s.1) ∈ ss := fun s hs => by
    obtain ⟨i, hi, e⟩ := List.mem_mapIdx.mp hs
    split at e
    · right; rw [← e]; exact List.getElem_mem hi
    · left; rw [← e]; exact List.getElem_mem hi
  refine ⟨fun n => ?_, fun s hs => ?_, mem⟩
  · rw [cnt_all, cnt_all]
    congr 1
    apply List.ext_getElem
    · simp
    · intro i h1 h2
      rw [List.getElem_map, List.getElem_map, List.getElem_mapIdx]
      split
      · unfold cE; dsimp only; omega
      · rfl
  · obtain ⟨i, hi, e⟩ := List.mem_iff_getElem.mp hs
    by_cases c : t i = true
    · right
      exact List.mem_mapIdx.mpr ⟨i, hi, by rw [if_pos c, e]⟩
    · left
      exact List.mem_mapIdx.mpr ⟨i, hi, by rw [if_neg c, e]⟩
end PL

/-! R8: stones of numbers that stand nowhere; parts of lists of stones. -/
namespace PL
open PySem L2
def nums200 : List Int := (List.range 200).map fun (k : Nat) => (k : Int)
def freeF (ss : List (Int × Int)) : List Int := nums200.filter fun n => !decide (n ∈ allE ss)
def apartF (ss : List (Int × Int)) (m : Nat) : List (Int × Int) := (List.range m).map fun k => ((freeF ss).getD (2 * k) 0, (freeF ss).getD (2 * k + 1) 0)
theorem nums200_nd : nums200.Nodup := by
  unfold nums200 List.Nodup
  rw [List.pairwise_map]
  exact List.pairwise_lt_range.imp fun h => by omega
theorem off_len : ∀ (L R : List Int), R.Nodup → R.length ≤ (R.filter fun n => !decide (n ∈ L)).length + L.length
  | [], R, _ => by
    have e : (R.filter fun n => !decide (n ∈ ([] : List Int))) = R := List.filter_eq_self.mpr fun a _ => by simp
    rw [e]; exact Nat.le_refl _
  | x :: L, R, h => by
    have ih := off_len L R h
    have nd : (R.filter fun n => !decide (n ∈ L)).Nodup := h.filter (fun n => !decide (n ∈ L))
    have e : (R.filter fun n => !decide (n ∈ x :: L)) = (R.filter fun n => !decide (n ∈ L)).filter (· != x) := by
      rw [List.filter_filter]
      refine List.filter_congr fun n _ => ?_
      by_cases h1 : n = x <;> by_cases h2 : n ∈ L <;> simp [h1, h2]
    have e2 := List.Nodup.erase_eq_filter nd x
    have e3 := List.length_erase (a := x) (l := R.filter fun n => !decide (n ∈ L))
    rw [e, ← e2, List.length_cons]
    split at e3 <;> omega
theorem allE_len : ∀ ss : List (Int × Int), (allE ss).length = 2 * ss.length
  | [] => rfl
  | s :: ss => by
    show (allE ss).length + 1 + 1 = _
    rw [allE_len ss, List.length_cons]; omega
theorem free_len {ss : List (Int × Int)} (h : ss.length ≤ 60) : 80 ≤ (freeF ss).length := by
  have h1 := off_len (allE ss) nums200 nums200_nd
  have h2 := allE_len ss
  have h3 : nums200.length = 200 := by simp [nums200]
  unfold freeF
  omega
theorem free_nd (ss : List (Int × Int)) : (freeF ss).Nodup := nums200_nd.filter _
theorem free_mem {ss : List (Int × Int)} {n : Int} (h : n ∈ freeF ss) : 0 ≤ n ∧ n < 200 ∧ ¬ n ∈ allE ss := by
  obtain ⟨h1, h2⟩ := List.mem_filter.mp h
  obtain ⟨k, hk, rfl⟩ := List.mem_map.mp h1
  have := List.mem_range.mp hk
  exact ⟨by omega, by omega, by simpa using h2⟩
theorem getD_at {l : List Int} {i : Nat} (h : i < l.length) : l[i]? = some (l.getD i 0) := by
  rw [List.getD_eq_getElem?_getD, List.getElem?_eq_getElem h]; rfl
theorem apart_ends (ss : List (Int × Int)) (hs : ss.length ≤ 60) : ∀ m, m ≤ 40 → allE (apartF ss m) = (freeF ss).take (2 * m)
  | 0, _ => rfl
  | m + 1, h => by
    have hl := free_len hs
    have ih := apart_ends ss hs m (by omega)
    have e : apartF ss (m + 1) = apartF ss m ++ [((freeF ss).getD (2 * m) 0, (freeF ss).getD (2 * m + 1) 0)] := by
      unfold apartF
      rw [List.range_succ, List.map_append]; rfl
    have e2 : 2 * (m + 1) = 2 * m + 1 + 1 := by omega
    rw [e, allE_append, ih, e2, List.take_succ, List.take_succ, getD_at (by omega), getD_at (by omega)]
    simp [allE]
theorem apart_ok {ss : List (Int × Int)} (hs : ss.length ≤ 60) {m : Nat} (h : m ≤ 40) : OkS (apartF ss m) := by
  have hl := free_len hs
  refine ⟨by unfold apartF; simp; omega, fun s hs' => ?_⟩
  have in_ : ∀ n ∈ allE (apartF ss m), okN n := fun n hn => by
    rw [apart_ends ss hs m h] at hn
    have := free_mem (List.mem_of_mem_take hn)
    exact ⟨by omega, by omega⟩
  exact ⟨in_ s.1 (allE_mem.mpr ⟨s, hs', .inl rfl⟩), in_ s.2 (allE_mem.mpr ⟨s, hs', .inr rfl⟩)⟩
theorem apart_nd {ss : List (Int × Int)} (hs : ss.length ≤ 60) {m : Nat} (h : m ≤ 40) : (allE (apartF ss m)).Nodup := by
  rw [apart_ends ss hs m h]
  exact (free_nd ss).sublist (List.take_sublist _ _)
theorem apart_off {ss : List (Int × Int)} (hs : ss.length ≤ 60) {m : Nat} (h : m ≤ 40) : ∀ n ∈ allE (apartF ss m), ¬ n ∈ allE ss := fun n hn => by
  rw [apart_ends ss hs m h] at hn
  exact (free_mem (List.mem_of_mem_take hn)).2.2
def R_law_apart (as : List Sl) (ds : List D) : Prop := ∃ ss m, as = [.d (stonesD ss), .d (.int ((m : Nat) : Int))] ∧ OkS ss ∧ m ≤ 10 ∧ ds = (apartF ss m).map stD
def sp_law_apart (K : PySem.W.Frag) : Sp := spF K R_law_apart
def t_law_apart (K : PySem.W.Frag) (w : World) : TS :=
    (tSeq (tAsg (tLst tNil) (gName 2))
    (tSeq (tFor (iList K (tVar 0)) (gName 3)
    (tAsg (tOp (rCat) (tVar 2) (tCB (cList K) (tCons (tVar 3) tNil))) (gName 2)))
    (tSeq (tAsg (tLc (iRng1 (tCons (tC (.int 200)) tNil)) (gName 5) (tTest (tOp (rIn K true) (tVar 5) (tVar 2))) (tVar 5) [5]) (gName 4))
    (tRet (tLc (iRng1 (tCons (tVar 1) tNil)) (gName 6) tYes (tTup (tCons (tOp (rIxL K) (tVar 4) (tOp (rI CMul fun i j => .int (i * j)) (tC (.int 2)) (tVar 6))) (tCons (tOp (rIxL K) (tVar 4) (tOp (rI0 fun i j => .int (i + j)) (tOp (rI CMul fun i j => .int (i * j)) (tC (.int 2)) (tVar 6)) (tC (.int 1)))) tNil))) [6])))))


section
variable {E : Ent} {δ δ' : List Sl} {ta tb te tc : TE} {d x y : D} {w : World} {XE : XK}
theorem evf_law_apart {ss : List (Int × Int)} {m : Nat} (ha : Ev E ta δ (stonesD ss)) (hb : Ev E tb δ (.int (m : Int))) (h : OkS ss) (hm : m ≤ 10) : EvF E (tCall (sp_law_apart E.K) [] XE (tCons ta (tCons tb tNil))) δ ((apartF ss m).map stD) := evF_call (ea_d ha (ea_d hb ea_nil)) ⟨ss, m, rfl, h, hm, rfl⟩
theorem ev_takeS {ss : List (Int × Int)} {i : Int} (j : Nat) (ha : Ev E ta δ (stonesD ss)) (hb : Ev E tb δ (.int i)) (e : i = (j : Int)) : Ev E (tSl (rSlL E.K) ta tNoPart (tPart tb)) δ (stonesD (ss.take j)) := by
  subst e
  have := (evF_slL ha eo_no (eo_i hb)).ev
  rw [cut_to, ← List.map_take] at this
  exact this
theorem ev_dropS {ss : List (Int × Int)} {i : Int} (j : Nat) (ha : Ev E ta δ (stonesD ss)) (hb : Ev E tb δ (.int i)) (e : i = (j : Int)) : Ev E (tSl (rSlL E.K) ta (tPart tb) tNoPart) δ (stonesD (ss.drop j)) := by
  subst e
  have := (evF_slL ha (eo_i hb) eo_no).ev
  rw [cut_from, ← List.map_drop] at this
  exact this
theorem ev_catS {a b : List (Int × Int)} (ha : Ev E ta δ (stonesD a)) (hb : Ev E tb δ (stonesD b)) (hz : a.length + b.length ≤ 100000) : Ev E (tOp rCat ta tb) δ (stonesD (a ++ b)) := by
  have := (evF_cat ha hb (by rw [List.length_map, List.length_map]; exact hz)).ev
  rw [← List.map_append] at this
  exact this
theorem ev_lenSt {ss : List (Int × Int)} (ha : Ev E ta δ (stonesD ss)) : Ev E (tCB (cLen E.K) (tCons ta tNil)) δ (.int (ss.length : Int)) := (ev_lenL ha).is (by rw [List.length_map])
theorem OkS.sub {ss tt : List (Int × Int)} (h : OkS ss) (h1 : tt.length ≤ 60) (h2 : ∀ s ∈ tt, s ∈ ss) : OkS tt := ⟨h1, fun s hs => h.mem s (h2 s hs)⟩
theorem mem_getL {ss : List (Int × Int)} {i : Nat} {x : D} (h : (ss.map stD)[i]? = some x) : ∃ s, ss[i]? = some s ∧ x = stD s := by
  rw [List.getElem?_map] at h
  cases q : ss[i]? with
  | none => rw [q] at h; cases h
  | some s => rw [q] at h; exact ⟨s, rfl, (Option.some.inj h).symm⟩
theorem xs_law_apart (ss : List (Int × Int)) (m : Nat) (hs : OkS ss) (hm : m ≤ 10) : Xs E (t_law_apart E.K w) (argSl [.d (stonesD ss), .d (.int (m : Int))] 5) fun o => o = .rl ((apartF ss m).map stD) := by
  have h60 := hs.len
  have fl := free_len h60
  refine q_asg (d := intsL []) (ev_lst ed_nil (by decide)) ?_
  refine xs_seq (xs_for (ei_list (xs := ss.map stD) (ev_var rfl)) (fun i δ => ∃ s3, δ = [.d (stonesD ss), .d (.int (m : Int)), .d (intsL (allE (ss.take i))), s3, .no, .no, .no]) ⟨_, rfl⟩ ?_ ?_)
  · rintro i x δ' hx ⟨s3, rfl⟩
    obtain ⟨s, hs', rfl⟩ := mem_getL hx
    have tk : ss.take (i + 1) = ss.take i ++ [s] := by rw [List.take_succ, hs']; rfl
    have al := allE_len (ss.take i)
    have tl : (ss.take i).length ≤ ss.length := by rw [List.length_take]; omega
    refine ⟨_, _, tg_name, ?_⟩
    refine xs_asg (ev_catI (b := [s.1, s.2]) (ev_var rfl) (evF_listT (xs := [.int s.1, .int s.2]) (ev_var rfl)).ev (by show _ + 2 ≤ 100000; omega)) ⟨.d (stD s), ?_⟩
    rw [tk, allE_append]
    rfl
  · rintro δ' ⟨s3, rfl⟩
    show Xs E _ [_, _, .d (intsL (allE (ss.take (ss.map stD).length))), s3, _, _, _] _
    rw [List.length_map, List.take_length]
    have k1 : EvF E (tLc (iRng1 (tCons (tC (.int 200)) tNil)) (gName 5) (tTest (tOp (rIn E.K true) (tVar 5) (tVar 2))) (tVar 5) [5]) [.d (stonesD ss), .d (.int (m : Int)), .d (intsL (allE ss)), s3, .no, .no, .no] ((freeF ss).map .int) := by
      refine evF_lc nums200 .int (fun n => !decide (n ∈ allE ss)) .int (EvI.c ?_) (by simp [nums200]) fun n hn => ⟨[5], _, by simp, tg_name, et_test (ev_notInL (ev_var rfl) (ev_var rfl)), fun _ => ev_var rfl⟩
      have := ei_range1 (E := E) (n := 200) (ta := tCons (tC (.int 200)) tNil) (δ := [.d (stonesD ss), .d (.int (m : Int)), .d (intsL (allE ss)), s3, .no, .no, .no]) (ed_cons ev_int ed_nil) (by decide)
      have e := range_ints 200
      have e2 : ((200 : Int).toNat) = (((200 : Nat) : Int).toNat) := rfl
      rw [e2, e] at this
      exact this
    refine q_asg (d := intsL (freeF ss)) k1.ev ?_
    have k2 : EvF E (tLc (iRng1 (tCons (tVar 1) tNil)) (gName 6) tYes (tTup (tCons (tOp (rIxL E.K) (tVar 4) (tOp (rI CMul fun i j => .int (i * j)) (tC (.int 2)) (tVar 6))) (tCons (tOp (rIxL E.K) (tVar 4) (tOp (rI0 fun i j => .int (i + j)) (tOp (rI CMul fun i j => .int (i * j)) (tC (.int 2)) (tVar 6)) (tC (.int 1)))) tNil))) [6]) [.d (stonesD ss), .d (.int (m : Int)), .d (intsL (allE ss)), s3, .d (intsL (freeF ss)), .no, .no] ((List.range m).map fun k => stD ((freeF ss).getD (2 * k) 0, (freeF ss).getD (2 * k + 1) 0)) := by
      refine evF_map (List.range m) (fun k => .int (k : Int)) (fun k => stD ((freeF ss).getD (2 * k) 0, (freeF ss).getD (2 * k + 1) 0)) (EvI.c ?_) (by simp; omega) fun k hk => ⟨_, _, by simp, tg_name, ?_⟩
      · have := ei_range1 (E := E) (n := (m : Int)) (ta := tCons (tVar 1) tNil) (δ := [.d (stonesD ss), .d (.int (m : Int)), .d (intsL (allE ss)), s3, .d (intsL (freeF ss)), .no, .no]) (ed_cons (ev_var rfl) ed_nil) (by omega)
        rw [range_ints, List.map_map] at this
        exact this
      · have hk := List.mem_range.mp hk
        have a1 : atI ((freeF ss).map PyData.int) (2 * (k : Int)) = some (.int ((freeF ss).getD (2 * k) 0)) := by
          have := atI_nat (xs := (freeF ss).map PyData.int) (j := 2 * k) (v := .int ((freeF ss).getD (2 * k) 0)) (by rw [List.getElem?_map, getD_at (by omega)]; rfl)
          have e : ((2 * k : Nat) : Int) = 2 * (k : Int) := by omega
          rwa [e] at this
        have a2 : atI ((freeF ss).map PyData.int) (2 * (k : Int) + 1) = some (.int ((freeF ss).getD (2 * k + 1) 0)) := by
          have := atI_nat (xs := (freeF ss).map PyData.int) (j := 2 * k + 1) (v := .int ((freeF ss).getD (2 * k + 1) 0)) (by rw [List.getElem?_map, getD_at (by omega)]; rfl)
          have e : ((2 * k + 1 : Nat) : Int) = 2 * (k : Int) + 1 := by omega
          rwa [e] at this
        have c : CMul 2 (k : Int) := .inl ⟨by decide, by decide⟩
        exact ev_tup (ed_cons (ev_ixL (ev_var rfl) (ev_mul ev_int (ev_var rfl) c) a1) (ed_cons (ev_ixL (ev_var rfl) (ev_add (ev_mul ev_int (ev_var rfl) c) ev_int) a2) ed_nil)) (by show 2 ≤ 100000; decide)
    refine xs_retF k2 ?_
    unfold apartF
    rw [List.map_map]
    rfl
end
end PL

/-! R9: stones as they lie; steps, chains, layings: what the checker tells of any datum. -/
namespace PL
open PySem L2
def turnF (s : Int × Int) (t : Int) : Int × Int := if t = 1 then (s.2, s.1) else s
/-- a step's stone as it lies -/
def liesF (ss : List (Int × Int)) (st : Int × Int) : Int × Int := turnF (stAt ss st.1) st.2
def okStep (n : Nat) (st : Int × Int) : Prop := (0 ≤ st.1 ∧ st.1 < (n : Int)) ∧ (st.2 = 0 ∨ st.2 = 1)
instance (n : Nat) (st : Int × Int) : Decidable (okStep n st) := by unfold okStep; exact inferInstance
def stepOf : D → Int × Int
  | .tuple [.int i, .int t] => (i, t)
  | _ => (0, 0)
def stepB (n : Nat) : D → Bool
  | .tuple [.int i, .int t] => decide (okStep n (i, t))
  | _ => false
def meetB (ss : List (Int × Int)) (a b : D) : Bool := decide ((liesF ss (stepOf a)).2 = (liesF ss (stepOf b)).1)
def chainB (ss : List (Int × Int)) : D → Bool
  | .list ds => decide (ds ≠ []) && ds.all (stepB ss.length) && (List.range (ds.length - 1)).all fun k => meetB ss (ds.getD k .none) (ds.getD (k + 1) .none)
  | _ => false
def stepsOf : D → List D
  | .list ds => ds
  | _ => []
def placesOf (cs : List D) : List Int := (cs.map fun c => (stepsOf c).map fun s => (stepOf s).1).flatten
def upTo (n : Nat) : List Int := (List.range n).map fun (k : Nat) => (k : Int)
def layB (ss : List (Int × Int)) : D → Bool
  | .list cs => cs.all (chainB ss) && decide (isort (placesOf cs) = upTo ss.length)
  | _ => false
def lenD : D → Nat
  | .list cs => cs.length
  | _ => 0
theorem step_st {n : Nat} : ∀ {x : D}, stepB n x = true → x = stD (stepOf x) ∧ okStep n (stepOf x)
  | .tuple [.int i, .int t], h => ⟨rfl, of_decide_eq_true h⟩
  | .none, h => nomatch h
  | .bool _, h => nomatch h
  | .int _, h => nomatch h
  | .str _, h => nomatch h
  | .list _, h => nomatch h
  | .dict _, h => nomatch h
  | .tuple [], h => nomatch h
  | .tuple [_], h => by simp [stepB] at h
  | .tuple (_ :: _ :: _ :: _), h => by simp [stepB] at h
  | .tuple [.none, _], h => by simp [stepB] at h
  | .tuple [.bool _, _], h => by simp [stepB] at h
  | .tuple [.str _, _], h => by simp [stepB] at h
  | .tuple [.list _, _], h => by simp [stepB] at h
  | .tuple [.tuple _, _], h => by simp [stepB] at h
  | .tuple [.dict _, _], h => by simp [stepB] at h
  | .tuple [.int _, .none], h => by simp [stepB] at h
  | .tuple [.int _, .bool _], h => by simp [stepB] at h
  | .tuple [.int _, .str _], h => by simp [stepB] at h
  | .tuple [.int _, .list _], h => by simp [stepB] at h
  | .tuple [.int _, .tuple _], h => by simp [stepB] at h
  | .tuple [.int _, .dict _], h => by simp [stepB] at h
def R_lying (as : List Sl) (d : D) : Prop := ∃ s t, as = [.d (stD s), .d (.int t)] ∧ d = stD (turnF s t)
def sp_lying (K : PySem.W.Frag) : Sp := spR K R_lying
def R_is_step (as : List Sl) (d : D) : Prop := ∃ ss x, as = [.d (stonesD ss), .d x] ∧ d = .bool (stepB ss.length x)
def sp_is_step (K : PySem.W.Frag) : Sp := spR K R_is_step
def R_meets (as : List Sl) (d : D) : Prop := ∃ ss a b, as = [.d (stonesD ss), .d (stD a), .d (stD b)] ∧ okStep ss.length a ∧ okStep ss.length b ∧ d = .bool (decide ((liesF ss a).2 = (liesF ss b).1))
def sp_meets (K : PySem.W.Frag) : Sp := spR K R_meets
def R_is_chain (as : List Sl) (d : D) : Prop := ∃ ss x, as = [.d (stonesD ss), .d x] ∧ ss.length ≤ 60 ∧ okA 3 x = true ∧ d = .bool (chainB ss x)
def sp_is_chain (K : PySem.W.Frag) : Sp := spR K R_is_chain
def R_is_laying (as : List Sl) (d : D) : Prop := ∃ ss x, as = [.d (stonesD ss), .d x] ∧ OkS ss ∧ okA 4 x = true ∧ d = .bool (layB ss x)
def sp_is_laying (K : PySem.W.Frag) : Sp := spR K R_is_laying
def R_is_fewest (as : List Sl) (d : D) : Prop := ∃ ss x, as = [.d (stonesD ss), .d x] ∧ OkS ss ∧ okA 4 x = true ∧ d = .bool (layB ss x && decide ((lenD x : Int) = fewF ss))
def sp_is_fewest (K : PySem.W.Frag) : Sp := spR K R_is_fewest
def t_lying (K : PySem.W.Frag) (w : World) : TS :=
    (tSeq (tAsg (tVar 0) (gTup K 2 (gCons (gName 2) (gCons (gName 3) gNil))))
    (tSeq (tIfS (tTest (tOp (rEq) (tVar 1) (tC (.int 1))))
    (tRet (tTup (tCons (tVar 3) (tCons (tVar 2) tNil))))
    tNext)
    (tRet (tVar 0))))

def t_is_step (K : PySem.W.Frag) (w : World) : TS :=
    (tSeq (tIfS (tOr (tNot (tB (tCB (rIsi K) (tCons (tVar 1) (tCons (tC (.ty "tuple")) tNil))))) (tOr (tTest (tOp (rNe) (tCB (cLen K) (tCons (tVar 1) tNil)) (tC (.int 2)))) (tOr (tNot (tB (tCall (sp_is_whole K) [] E0 (tCons (tOp (rIxT K) (tVar 1) (tC (.int 0))) tNil)))) (tNot (tB (tCall (sp_is_whole K) [] E0 (tCons (tOp (rIxT K) (tVar 1) (tC (.int 1))) tNil)))))))
    (tRet (tC (.bl false)))
    tNext)
    (tRet (tAndV (tChain (rI0 fun i j => .bl (decide (i ≤ j))) (rI0 fun i j => .bl (decide (i < j))) (tC (.int 0)) (tOp (rIxT K) (tVar 1) (tC (.int 0))) (tCB (cLen K) (tCons (tVar 0) tNil))) (tOp (rIn K false) (tOp (rIxT K) (tVar 1) (tC (.int 1))) (tTup (tCons (tC (.int 0)) (tCons (tC (.int 1)) tNil)))))))

def t_meets (K : PySem.W.Frag) (w : World) : TS :=
    (tRet (tOp (rEq) (tOp (rIxT K) (tCall (sp_lying K) [] E0 (tCons (tOp (rIxL K) (tVar 0) (tOp (rIxT K) (tVar 1) (tC (.int 0)))) (tCons (tOp (rIxT K) (tVar 1) (tC (.int 1))) tNil))) (tC (.int 1))) (tOp (rIxT K) (tCall (sp_lying K) [] E0 (tCons (tOp (rIxL K) (tVar 0) (tOp (rIxT K) (tVar 2) (tC (.int 0)))) (tCons (tOp (rIxT K) (tVar 2) (tC (.int 1))) tNil))) (tC (.int 0)))))

def t_is_chain (K : PySem.W.Frag) (w : World) : TS :=
    (tSeq (tIfS (tOr (tNot (tB (tCB (rIsi K) (tCons (tVar 1) (tCons (tC (.ty "list")) tNil))))) (tOr (tTest (tOp (rEqD K) (tVar 1) (tLst tNil))) (tNot (tB (tCB (rAll K) (tCons (tLc (iList K (tVar 1)) (gName 2) tYes (tCall (sp_is_step K) [] E0 (tCons (tVar 0) (tCons (tVar 2) tNil))) [2]) tNil))))))
    (tRet (tC (.bl false)))
    tNext)
    (tRet (tCB (rAll K) (tCons (tLc (iRng1 (tCons (tOp (rI0 fun i j => .int (i - j)) (tCB (cLen K) (tCons (tVar 1) tNil)) (tC (.int 1))) tNil)) (gName 3) tYes (tCall (sp_meets K) [] E0 (tCons (tVar 0) (tCons (tOp (rIxL K) (tVar 1) (tVar 3)) (tCons (tOp (rIxL K) (tVar 1) (tOp (rI0 fun i j => .int (i + j)) (tVar 3) (tC (.int 1)))) tNil)))) [3]) tNil))))

def t_is_laying (K : PySem.W.Frag) (w : World) : TS :=
    (tSeq (tDrop (tCall (sp_need_stones K) [] E0 (tCons (tVar 0) tNil)))
    (tSeq (tIfS (tOr (tNot (tB (tCB (rIsi K) (tCons (tVar 1) (tCons (tC (.ty "list")) tNil))))) (tNot (tB (tCB (rAll K) (tCons (tLc (iList K (tVar 1)) (gName 3) tYes (tCall (sp_is_chain K) [] E0 (tCons (tVar 0) (tCons (tVar 3) tNil))) [3]) tNil)))))
    (tRet (tC (.bl false)))
    tNext)
    (tSeq (tAsg (tLst tNil) (gName 2))
    (tSeq (tFor (iList K (tVar 1)) (gName 3)
    (tDrop (tBM K "list" rExtend (tVar 2) (tCons (tLc (iList K (tVar 3)) (gName 4) tYes (tOp (rIxT K) (tVar 4) (tC (.int 0))) [4]) tNil))))
    (tRet (tOp (rEqD K) (tCB (rSortedI K) (tCons (tVar 2) tNil)) (tLstRg (tRg1 (tCB (cLen K) (tCons (tVar 0) tNil))))))))))

def t_is_fewest (K : PySem.W.Frag) (w : World) : TS :=
    (tRet (tAndV (tCall (sp_is_laying K) [] E0 (tCons (tVar 0) (tCons (tVar 1) tNil))) (tOp (rEq) (tCB (cLen K) (tCons (tVar 1) tNil)) (tCall (sp_fewest K) [] E0 (tCons (tVar 0) tNil)))))



theorem okA_list {n : Nat} {xs : List D} (h : okA (n + 1) (.list xs) = true) : xs.length ≤ 1000 ∧ ∀ x ∈ xs, okA n x = true := by
  have h' : (decide (xs.length ≤ 1000) && xs.all (okA n)) = true := h
  rw [Bool.and_eq_true, decide_eq_true_eq] at h'
  exact ⟨h'.1, fun x hx => List.all_eq_true.mp h'.2 x hx⟩
mutual
theorem okA_lay : ∀ (n : Nat) (x : D), okA n x = true → x.canLay0 = true ∧ x.depth ≤ n
  | n, .none, _ => ⟨by simp [PyData.canLay0], by simp [PyData.depth]⟩
  | n, .bool _, _ => ⟨by simp [PyData.canLay0], by simp [PyData.depth]⟩
  | n, .int _, _ => ⟨by simp [PyData.canLay0], by simp [PyData.depth]⟩
  | n, .str b, h => by
    have hb : PyData.strOk b = true := by cases n <;> exact h
    exact ⟨by simp [PyData.canLay0, hb], by simp [PyData.depth]⟩
  | 0, .list _, h => nomatch h
  | 0, .tuple _, h => nomatch h
  | n + 1, .list xs, h => by
    have h' : (decide (xs.length ≤ 1000) && xs.all (okA n)) = true := h
    rw [Bool.and_eq_true] at h'
    obtain ⟨a, b⟩ := okA_layA n xs h'.2
    exact ⟨by rw [PyData.canLay0]; exact a, by rw [PyData.depth]; omega⟩
  | n + 1, .tuple xs, h => by
    have h' : (decide (xs.length ≤ 1000) && xs.all (okA n)) = true := h
    rw [Bool.and_eq_true] at h'
    obtain ⟨a, b⟩ := okA_layA n xs h'.2
    exact ⟨by rw [PyData.canLay0]; exact a, by rw [PyData.depth]; omega⟩
  | 0, .dict _, h => nomatch h
  | n + 1, .dict _, h => nomatch h
theorem okA_layA : ∀ (n : Nat) (xs : List D), xs.all (okA n) = true → PyData.canLayAll0 xs = true ∧ PyData.depthAll xs ≤ n
  | n, [], _ => ⟨rfl, Nat.zero_le _⟩
  | n, x :: xs, h => by
    rw [List.all_cons, Bool.and_eq_true] at h
    obtain ⟨a, b⟩ := okA_lay n x h.1
    obtain ⟨c, d⟩ := okA_layA n xs h.2
    exact ⟨by rw [PyData.canLayAll0, a, c]; rfl, by rw [PyData.depthAll]; omega⟩
end
theorem okA_shp {n : Nat} {x : D} (h : okA n x = true) (hn : n ≤ 64) : SeqAt.shaped x = true := by
  obtain ⟨a, b⟩ := okA_lay n x h
  exact shp_of a (by omega)
section
variable {E : Ent} {δ δ' : List Sl} {ta tb te tc : TE} {d x y : D} {w : World} {XE : XK}
theorem evc_lying {s : Int × Int} {t : Int} (ha : Ev E ta δ (stD s)) (hb : Ev E tb δ (.int t)) : Ev E (tCall (sp_lying E.K) [] XE (tCons ta (tCons tb tNil))) δ (stD (turnF s t)) := ev_call (ea_d ha (ea_d hb ea_nil)) ⟨s, t, rfl, rfl⟩
theorem evc_is_step {ss : List (Int × Int)} (ha : Ev E ta δ (stonesD ss)) (hb : Ev E tb δ x) : Ev E (tCall (sp_is_step E.K) [] XE (tCons ta (tCons tb tNil))) δ (.bool (stepB ss.length x)) := ev_call (ea_d ha (ea_d hb ea_nil)) ⟨ss, x, rfl, rfl⟩
theorem evc_meets {ss : List (Int × Int)} {a b : Int × Int} (ha : Ev E ta δ (stonesD ss)) (hb : Ev E tb δ (stD a)) (hc : Ev E tc δ (stD b)) (h1 : okStep ss.length a) (h2 : okStep ss.length b) : Ev E (tCall (sp_meets E.K) [] XE (tCons ta (tCons tb (tCons tc tNil)))) δ (.bool (decide ((liesF ss a).2 = (liesF ss b).1))) := ev_call (ea_d ha (ea_d hb (ea_d hc ea_nil))) ⟨ss, a, b, rfl, h1, h2, rfl⟩
theorem evc_is_chain {ss : List (Int × Int)} (ha : Ev E ta δ (stonesD ss)) (hb : Ev E tb δ x) (h : ss.length ≤ 60) (hx : okA 3 x = true) : Ev E (tCall (sp_is_chain E.K) [] XE (tCons ta (tCons tb tNil))) δ (.bool (chainB ss x)) := ev_call (ea_d ha (ea_d hb ea_nil)) ⟨ss, x, rfl, h, hx, rfl⟩
theorem evc_is_laying {ss : List (Int × Int)} (ha : Ev E ta δ (stonesD ss)) (hb : Ev E tb δ x) (h : OkS ss) (hx : okA 4 x = true) : Ev E (tCall (sp_is_laying E.K) [] XE (tCons ta (tCons tb tNil))) δ (.bool (layB ss x)) := ev_call (ea_d ha (ea_d hb ea_nil)) ⟨ss, x, rfl, h, hx, rfl⟩
theorem evc_is_fewest {ss : List (Int × Int)} (ha : Ev E ta δ (stonesD ss)) (hb : Ev E tb δ x) (h : OkS ss) (hx : okA 4 x = true) : Ev E (tCall (sp_is_fewest E.K) [] XE (tCons ta (tCons tb tNil))) δ (.bool (layB ss x && decide ((lenD x : Int) = fewF ss))) := ev_call (ea_d ha (ea_d hb ea_nil)) ⟨ss, x, rfl, h, hx, rfl⟩
theorem xs_lying (s : Int × Int) (t : Int) : Xs E (t_lying E.K w) (argSl [.d (stD s), .d (.int t)] 2) fun o => o = .rt (stD (turnF s t)) := by
  refine xs_seq (xs_asgT (x := stD s) (ev_var rfl) tg_two ?_)
  refine q_when (b := decide (t = 1)) (et_test (ev_eqI (ev_var rfl) ev_int)) (fun e => ?_) fun e => ?_
  · have e : t = 1 := by simpa using e
    refine xs_ret (ev_tup (ed_cons (ev_var rfl) (ed_cons (ev_var rfl) ed_nil)) (by show 2 ≤ 100000; decide)) ?_
    unfold turnF
    rw [if_pos e]
    rfl
  · have e : ¬ t = 1 := by simpa using e
    refine xs_ret (ev_var rfl) ?_
    unfold turnF
    rw [if_neg e]
theorem whole_int {x : D} (h : isWhole x = true) : ∃ i, x = .int i := by
  cases x <;> first | exact ⟨_, rfl⟩ | cases h
theorem xs_is_step (ss : List (Int × Int)) (x : D) : Xs E (t_is_step E.K w) (argSl [.d (stonesD ss), .d x] 0) fun o => o = .rt (.bool (stepB ss.length x)) := by
  have no : ∀ {t : TT} {u : TS}, stepB ss.length x = false → Et E t (argSl [.d (stonesD ss), .d x] 0) true → Xs E (tSeq (tIfS t (tRet (tC (.bl false))) tNext) u) (argSl [.d (stonesD ss), .d x] 0) fun o => o = .rt (.bool (stepB ss.length x)) := fun hs ht => by
    refine q_when (b := true) ht (fun _ => ?_) fun z => nomatch z
    rw [hs]
    exact xs_ret ev_bl rfl
  by_cases h1 : isTupD x = true
  · obtain ⟨ds, rfl⟩ : ∃ ds, x = .tuple ds := by cases x <;> first | exact ⟨_, rfl⟩ | cases h1
    by_cases h2 : ds.length = 2
    · obtain ⟨a, b, rfl⟩ : ∃ a b, ds = [a, b] := by
        match ds, h2 with
        | [a, b], _ => exact ⟨a, b, rfl⟩
      have tst : Et E (tOr (tNot (tB (tCB (rIsi E.K) (tCons (tVar 1) (tCons (tC (.ty "tuple")) tNil))))) (tOr (tTest (tOp (rNe) (tCB (cLen E.K) (tCons (tVar 1) tNil)) (tC (.int 2)))) (tOr (tNot (tB (tCall (sp_is_whole E.K) [] E0 (tCons (tOp (rIxT E.K) (tVar 1) (tC (.int 0))) tNil)))) (tNot (tB (tCall (sp_is_whole E.K) [] E0 (tCons (tOp (rIxT E.K) (tVar 1) (tC (.int 1))) tNil))))))) (argSl [.d (stonesD ss), .d (.tuple [a, b])] 0) (!isWhole a || !isWhole b) := (et_or (et_not (et_B (ev_isi_tuple (ev_var rfl)))) fun _ => et_or (et_test (ev_neI (ev_lenT (ev_var rfl)) ev_int)) fun _ => et_or (et_not (et_B (evc_is_whole (ev_ixT0 (ev_var rfl))))) fun _ => et_not (et_B (evc_is_whole (ev_ixT1 (ev_var rfl))))).is (by simp [isTupD])
      cases wa : isWhole a with
      | false => exact no (by cases a <;> first | rfl | cases wa) (tst.is (by rw [wa]; rfl))
      | true =>
        cases wb : isWhole b with
        | false =>
          obtain ⟨i, rfl⟩ := whole_int wa
          exact no (by cases b <;> first | rfl | cases wb) (tst.is (by rw [wb]; simp))
        | true =>
          obtain ⟨i, rfl⟩ := whole_int wa
          obtain ⟨t, rfl⟩ := whole_int wb
          refine q_when (b := false) (tst.is rfl) (fun z => nomatch z) fun _ => ?_
          refine xs_ret (ev_andV (ev_chain (a := decide ((0 : Int) ≤ i)) (b := decide (i < (ss.length : Int))) ev_int (ev_ixT0 (ev_var rfl)) op_bool (fun _ => ev_lenSt (ev_var rfl)) fun _ => op_bool) fun _ => ev_inT (ns := [0, 1]) (ev_ixT1 (ev_var rfl)) (ev_tup (ed_cons ev_int (ed_cons ev_int ed_nil)) (by show 2 ≤ 100000; decide))) ?_
          show Out.rt _ = Out.rt _
          congr 2
          show _ = decide (okStep ss.length (i, t))
          unfold okStep
          by_cases c1 : 0 ≤ i <;> by_cases c2 : i < (ss.length : Int) <;> by_cases c3 : t = 0 <;> by_cases c4 : t = 1 <;> simp [c1, c2, c3, c4]
    · have hn : ¬ (ds.length : Int) = 2 := fun e => h2 (by omega)
      exact no (by
        match ds, h2 with
        | [], _ => rfl
        | [_], _ => simp [stepB]
        | [_, _], h2 => exact absurd rfl h2
        | _ :: _ :: _ :: _, _ => simp [stepB]) ((et_or (et_not (et_B (ev_isi_tuple (ev_var rfl)))) fun _ => et_or (a := true) (b := true) (et_test ((ev_neI (ev_lenT (ev_var rfl)) ev_int).is (by simp [hn]))) fun z => nomatch z).is (by simp))
  · have h1' : isTupD x = false := by simpa using h1
    exact no (by cases x <;> first | rfl | (exact absurd rfl h1)) ((et_or (a := true) (b := true) (et_not (et_B ((ev_isi_tuple (ev_var rfl)).is (by rw [h1'])))) fun z => nomatch z).is (by simp))
theorem xs_meets (ss : List (Int × Int)) (a b : Int × Int) (h1 : okStep ss.length a) (h2 : okStep ss.length b) : Xs E (t_meets E.K w) (argSl [.d (stonesD ss), .d (stD a), .d (stD b)] 0) fun o => o = .rt (.bool (decide ((liesF ss a).2 = (liesF ss b).1))) := by
  have g1 := stD_get (ss := ss) h1.1
  have g2 := stD_get (ss := ss) h2.1
  exact xs_ret (ev_eqI (ev_st1 (evc_lying (ev_ixL (ev_var rfl) (ev_st0 (s := a) (ev_var rfl)) g1) (ev_st1 (s := a) (ev_var rfl)))) (ev_st0 (evc_lying (ev_ixL (ev_var rfl) (ev_st0 (s := b) (ev_var rfl)) g2) (ev_st1 (s := b) (ev_var rfl))))) rfl
theorem all_map {α : Type} (p : α → Bool) (l : List α) : (l.map p).all id = l.all p := by
  rw [List.all_map]; rfl
theorem xs_is_chain (ss : List (Int × Int)) (x : D) (hz : ss.length ≤ 60) (hx : okA 3 x = true) : Xs E (t_is_chain E.K w) (argSl [.d (stonesD ss), .d x] 2) fun o => o = .rt (.bool (chainB ss x)) := by
  have no : ∀ {t : TT} {u : TS}, chainB ss x = false → Et E t (argSl [.d (stonesD ss), .d x] 2) true → Xs E (tSeq (tIfS t (tRet (tC (.bl false))) tNext) u) (argSl [.d (stonesD ss), .d x] 2) fun o => o = .rt (.bool (chainB ss x)) := fun hs ht => by
    refine q_when (b := true) ht (fun _ => ?_) fun z => nomatch z
    rw [hs]
    exact xs_ret ev_bl rfl
  by_cases h1 : isListD x = true
  · obtain ⟨ds, rfl⟩ : ∃ ds, x = .list ds := by cases x <;> first | exact ⟨_, rfl⟩ | cases h1
    obtain ⟨hl, hds⟩ := okA_list hx
    have ne : Ev E (tOp (rEqD E.K) (tVar 1) (tLst tNil)) (argSl [.d (stonesD ss), .d (.list ds)] 2) (.bool (decide (ds = []))) := (ev_eqD (ev_var rfl) (ev_lst ed_nil (by decide)) (okA_shp hx (by decide)) shp_nil).is (by rw [eqv_nil])
    have key : EvF E (tLc (iList E.K (tVar 1)) (gName 2) tYes (tCall (sp_is_step E.K) [] E0 (tCons (tVar 0) (tCons (tVar 2) tNil))) [2]) (argSl [.d (stonesD ss), .d (.list ds)] 2) (ds.map fun a => .bool (stepB ss.length a)) :=
      evF_map ds id (fun a => .bool (stepB ss.length a)) (EvI.c (by rw [List.map_id]; exact ei_list (ev_var rfl))) (by omega) fun a ha => ⟨_, _, by simp, tg_name, evc_is_step (ev_var rfl) (ev_var rfl)⟩
    have e2 : (ds.map fun a => (PyData.bool (stepB ss.length a))) = (ds.map (stepB ss.length)).map PyData.bool := by rw [List.map_map]; rfl
    rw [e2] at key
    have al := (ev_all key.ev)
    rw [all_map] at al
    have tst := et_or (et_not (et_B (ev_isi_list (E := E) (ta := tVar 1) (x := .list ds) (δ := argSl [.d (stonesD ss), .d (.list ds)] 2) (ev_var rfl)))) fun _ => et_or (et_test ne) fun _ => et_not (et_B al)
    by_cases h2 : ds = []
    · exact no (by subst h2; rfl) (tst.is (by simp [h2]))
    · cases h3 : ds.all (stepB ss.length) with
      | false =>
        exact no (by show (decide (ds ≠ []) && ds.all (stepB ss.length) && _) = false; rw [h3]; simp) (tst.is (by rw [h3]; simp))
      | true =>
        refine q_when (b := false) (tst.is (by rw [h3]; simp [h2, isListD])) (fun z => nomatch z) fun _ => ?_
        have hp : 0 < ds.length := List.length_pos_iff.mpr h2
        have st : ∀ k, k < ds.length → ∃ x, ds[k]? = some x ∧ ds.getD k .none = x ∧ x = stD (stepOf x) ∧ okStep ss.length (stepOf x) := fun k hk => by
          have hs := step_st (List.all_eq_true.mp h3 ds[k] (List.getElem_mem hk))
          exact ⟨ds[k], List.getElem?_eq_getElem hk, by rw [List.getD_eq_getElem?_getD, List.getElem?_eq_getElem hk]; rfl, hs.1, hs.2⟩
        have k2 : EvF E (tLc (iRng1 (tCons (tOp (rI0 fun i j => .int (i - j)) (tCB (cLen E.K) (tCons (tVar 1) tNil)) (tC (.int 1))) tNil)) (gName 3) tYes (tCall (sp_meets E.K) [] E0 (tCons (tVar 0) (tCons (tOp (rIxL E.K) (tVar 1) (tVar 3)) (tCons (tOp (rIxL E.K) (tVar 1) (tOp (rI0 fun i j => .int (i + j)) (tVar 3) (tC (.int 1)))) tNil)))) [3]) (argSl [.d (stonesD ss), .d (.list ds)] 2) ((List.range (ds.length - 1)).map fun (k : Nat) => .bool (meetB ss (ds.getD k .none) (ds.getD (k + 1) .none))) := by
          refine evF_map (List.range (ds.length - 1)) (fun (k : Nat) => .int (k : Int)) (fun (k : Nat) => .bool (meetB ss (ds.getD k .none) (ds.getD (k + 1) .none))) (EvI.c ?_) (by simp; omega) fun k hk => ⟨[3], _, by simp, tg_name, ?_⟩
          · have := ei_range1 (E := E) (n := ((ds.length - 1 : Nat) : Int)) (ta := tCons (tOp (rI0 fun i j => .int (i - j)) (tCB (cLen E.K) (tCons (tVar 1) tNil)) (tC (.int 1))) tNil) (δ := argSl [.d (stonesD ss), .d (.list ds)] 2) (ed_cons ((ev_sub (ev_lenL (ev_var rfl)) ev_int).is (by congr 1; omega)) ed_nil) (by omega)
            rw [range_ints, List.map_map] at this
            exact this
          · have hk := List.mem_range.mp hk
            obtain ⟨a, a1, a2, a3, a4⟩ := st k (by omega)
            obtain ⟨b, b1, b2, b3, b4⟩ := st (k + 1) (by omega)
            have e : ((k + 1 : Nat) : Int) = (k : Int) + 1 := by omega
            have i2 : atI ds ((k : Int) + 1) = some (stD (stepOf b)) := by rw [← e, ← b3]; exact atI_nat b1
            have i1 : atI ds (k : Int) = some (stD (stepOf a)) := by rw [← a3]; exact atI_nat a1
            refine (evc_meets (ev_var rfl) (ev_ixL (xs := ds) (ev_var rfl) (ev_var rfl) i1) (ev_ixL (xs := ds) (ev_var rfl) (ev_add (ev_var rfl) ev_int) i2) a4 b4).is ?_
            unfold meetB
            rw [a2, b2]
        have e3 : ((List.range (ds.length - 1)).map fun (k : Nat) => (PyData.bool (meetB ss (ds.getD k .none) (ds.getD (k + 1) .none)))) = ((List.range (ds.length - 1)).map fun k => meetB ss (ds.getD k .none) (ds.getD (k + 1) .none)).map PyData.bool := by rw [List.map_map]; rfl
        rw [e3] at k2
        refine xs_ret (ev_all k2.ev) ?_
        rw [all_map]
        show Out.rt _ = Out.rt (.bool (decide (ds ≠ []) && ds.all (stepB ss.length) && _))
        rw [h3]
        simp [h2]
  · have h1' : isListD x = false := by simpa using h1
    exact no (by cases x <;> first | rfl | (exact absurd rfl h1)) ((et_or (a := true) (b := true) (et_not (et_B ((ev_isi_list (ev_var rfl)).is (by rw [h1'])))) fun z => nomatch z).is (by simp))
theorem upTo_rise (n : Nat) : (upTo n).Pairwise (· ≤ ·) := by
  unfold upTo
  rw [List.pairwise_map]
  exact List.pairwise_lt_range.imp fun h => by omega
theorem eqv_ints : ∀ a b : List Int, PyData.eqvAll (a.map .int) (b.map .int) = decide (a = b)
  | [], [] => by simp [PyData.eqvAll]
  | [], _ :: _ => by simp [PyData.eqvAll]
  | _ :: _, [] => by simp [PyData.eqvAll]
  | x :: a, y :: b => by
    rw [List.map_cons, List.map_cons, PyData.eqvAll, eqv_ints a b]
    by_cases h : x = y <;> simp [PyData.eqv, h]
theorem chain_list {ss : List (Int × Int)} {x : D} (h : chainB ss x = true) : ∃ ds, x = .list ds ∧ ds ≠ [] ∧ ds.all (stepB ss.length) = true := by
  cases x with
  | list ds =>
    have h' : (decide (ds ≠ []) && ds.all (stepB ss.length) && _) = true := h
    rw [Bool.and_eq_true, Bool.and_eq_true, decide_eq_true_eq] at h'
    exact ⟨ds, rfl, h'.1.1, h'.1.2⟩
  | _ => cases h
theorem xs_is_laying (ss : List (Int × Int)) (x : D) (hs : OkS ss) (hx : okA 4 x = true) : Xs E (t_is_laying E.K w) (argSl [.d (stonesD ss), .d x] 3) fun o => o = .rt (.bool (layB ss x)) := by
  refine q_drop (evc_need (ev_var rfl) (isStones_of hs)).m ?_
  have no : ∀ {t : TT} {u : TS}, layB ss x = false → Et E t (argSl [.d (stonesD ss), .d x] 3) true → Xs E (tSeq (tIfS t (tRet (tC (.bl false))) tNext) u) (argSl [.d (stonesD ss), .d x] 3) fun o => o = .rt (.bool (layB ss x)) := fun hs ht => by
    refine q_when (b := true) ht (fun _ => ?_) fun z => nomatch z
    rw [hs]
    exact xs_ret ev_bl rfl
  by_cases h1 : isListD x = true
  · obtain ⟨cs, rfl⟩ : ∃ ds, x = .list ds := by cases x <;> first | exact ⟨_, rfl⟩ | cases h1
    obtain ⟨hl, hcs⟩ := okA_list hx
    have key : EvF E (tLc (iList E.K (tVar 1)) (gName 3) tYes (tCall (sp_is_chain E.K) [] E0 (tCons (tVar 0) (tCons (tVar 3) tNil))) [3]) (argSl [.d (stonesD ss), .d (.list cs)] 3) (cs.map fun a => .bool (chainB ss a)) :=
      evF_map cs id (fun a => .bool (chainB ss a)) (EvI.c (by rw [List.map_id]; exact ei_list (ev_var rfl))) (by omega) fun a ha => ⟨_, _, by simp, tg_name, evc_is_chain (ev_var rfl) (ev_var rfl) hs.len (hcs a ha)⟩
    have e2 : (cs.map fun a => (PyData.bool (chainB ss a))) = (cs.map (chainB ss)).map PyData.bool := by rw [List.map_map]; rfl
    rw [e2] at key
    have al := (ev_all key.ev)
    rw [all_map] at al
    have tst := et_or (et_not (et_B (ev_isi_list (E := E) (ta := tVar 1) (x := .list cs) (δ := argSl [.d (stonesD ss), .d (.list cs)] 3) (ev_var rfl)))) fun _ => et_not (et_B al)
    cases h3 : cs.all (chainB ss) with
    | false => exact no (by show (cs.all (chainB ss) && _) = false; rw [h3]; rfl) (tst.is (by rw [h3]; simp))
    | true =>
      refine q_when (b := false) (tst.is (by rw [h3]; rfl)) (fun z => nomatch z) fun _ => ?_
      refine q_asgF (evF_lst ed_nil (by decide)) ?_
      refine xs_seq (xs_for (ei_list (xs := cs) (ev_var rfl)) (fun i δ => ∃ s3 s4, δ = [.d (stonesD ss), .d (.list cs), .ow ((placesOf (cs.take i)).map .int), s3, s4] ∧ (placesOf (cs.take i)).length ≤ 1000 * i) ⟨_, _, rfl, by simp [placesOf]⟩ ?_ ?_)
      · rintro i x δ' hi ⟨s3, s4, rfl, hsz⟩
        have him : x ∈ cs := List.mem_of_getElem? hi
        have hil : i < cs.length := (List.getElem?_eq_some_iff.mp hi).1
        obtain ⟨ds, rfl, hne, hall⟩ := chain_list (List.all_eq_true.mp h3 x him)
        obtain ⟨dl, _⟩ := okA_list (hcs _ him)
        have tk : cs.take (i + 1) = cs.take i ++ [.list ds] := by rw [List.take_succ, hi]; rfl
        have pk : placesOf (cs.take (i + 1)) = placesOf (cs.take i) ++ ds.map fun s => (stepOf s).1 := by
          rw [tk]
          unfold placesOf
          rw [List.map_append, List.flatten_append]
          simp [stepsOf]
        refine ⟨_, _, tg_name, ?_⟩
        have k2 : EvF E (tLc (iList E.K (tVar 3)) (gName 4) tYes (tOp (rIxT E.K) (tVar 4) (tC (.int 0))) [4]) [.d (stonesD ss), .d (.list cs), .ow ((placesOf (cs.take i)).map .int), .d (.list ds), s4] (ds.map fun s => .int (stepOf s).1) := by
          refine evF_map ds id (fun s => .int (stepOf s).1) (EvI.c (by rw [List.map_id]; exact ei_list (ev_var rfl))) (by omega) fun a ha => ⟨_, _, by simp, tg_name, ?_⟩
          obtain ⟨q1, _⟩ := step_st (List.all_eq_true.mp hall a ha)
          refine ev_st0 (s := stepOf a) ?_
          rw [← q1]
          exact ev_var rfl
        refine xs_drop (evM_extend (n := 2) rfl k2.ev (by simp only [List.length_map]; omega)) ⟨.d (.list ds), s4, ?_, ?_⟩
        · rw [pk, List.map_append, List.map_map]
          rfl
        · rw [pk, List.length_append, List.length_map]; omega
      · rintro δ' ⟨s3, s4, rfl, hsz⟩
        rw [List.take_length] at hsz ⊢
        have k3 : EvF E (tLstRg (tRg1 (tCB (cLen E.K) (tCons (tVar 0) tNil)))) [.d (stonesD ss), .d (.list cs), .d (intsL (placesOf cs)), s3, s4] ((upTo ss.length).map .int) := by
          unfold upTo
          rw [← range_ints]
          have := hs.len
          exact evF_listRg (ev_lenSt (ev_var rfl)) ⟨by omega, by omega⟩
        refine xs_share (i := 2) rfl ?_
        refine xs_ret (ev_eqD (evF_sorted (ns := placesOf cs) (ms := isort (placesOf cs)) (ev_var rfl) fun ms p h => isort_is p h).ev k3.ev (shp_ints _) (shp_ints _)) ?_
        rw [PyData.eqv, eqv_ints]
        show _ = Out.rt (.bool (cs.all (chainB ss) && _))
        rw [h3]
        rfl
  · have h1' : isListD x = false := by simpa using h1
    exact no (by cases x <;> first | rfl | (exact absurd rfl h1)) ((et_or (a := true) (b := true) (et_not (et_B ((ev_isi_list (ev_var rfl)).is (by rw [h1'])))) fun z => nomatch z).is (by simp))
theorem xs_is_fewest (ss : List (Int × Int)) (x : D) (hs : OkS ss) (hx : okA 4 x = true) : Xs E (t_is_fewest E.K w) (argSl [.d (stonesD ss), .d x] 0) fun o => o = .rt (.bool (layB ss x && decide ((lenD x : Int) = fewF ss))) := by
  refine xs_ret (ev_andV (evc_is_laying (ev_var rfl) (ev_var rfl) hs hx) fun e => ?_) rfl
  cases x with
  | list cs => exact ev_eqI (ev_lenL (ev_var rfl)) (ev_fewest (ev_var rfl) hs)
  | _ => cases e
end
end PL

/-! M6: no laying has fewer chains than the least number told. -/
namespace PL
open PySem L2
structure ChainOk (ss : List (Int × Int)) (c : List (Int × Int)) : Prop where
  ne : c ≠ []
  st : ∀ s ∈ c, okStep ss.length s
  lk : ∀ i a b, c[i]? = some a → c[i + 1]? = some b → (liesF ss a).2 = (liesF ss b).1
structure LayOk (ss : List (Int × Int)) (lay : List (List (Int × Int))) : Prop where
  ch : ∀ c ∈ lay, ChainOk ss c
  pl : (lay.flatten.map Prod.fst).Perm (upTo ss.length)
def layD (lay : List (List (Int × Int))) : D := .list (lay.map stonesD)
def firstF (ss : List (Int × Int)) (c : List (Int × Int)) : Int := (liesF ss (c.headD (0, 0))).1
def lastF (ss : List (Int × Int)) (c : List (Int × Int)) : Int := (liesF ss (c.getLastD (0, 0))).2
def endsL (ss : List (Int × Int)) (lay : List (List (Int × Int))) : List Int := (lay.map fun c => [firstF ss c, lastF ss c]).flatten
def ind (p : Prop) [Decidable p] : Nat := if p then 1 else 0
theorem cE_turn (n : Int) (s : Int × Int) (t : Int) : cE n (turnF s t) = cE n s := by
  unfold turnF
  split
  · unfold cE; dsimp only; omega
  · rfl
theorem lk_tail {ss : List (Int × Int)} {a : Int × Int} {c : List (Int × Int)} (h : ∀ i x y, (a :: c)[i]? = some x → (a :: c)[i + 1]? = some y → (liesF ss x).2 = (liesF ss y).1) : ∀ i x y, c[i]? = some x → c[i + 1]? = some y → (liesF ss x).2 = (liesF ss y).1 := fun i x y h1 h2 => h (i + 1) x y (by simpa using h1) (by simpa using h2)
theorem chain_par {ss : List (Int × Int)} (n : Int) : ∀ {c : List (Int × Int)}, c ≠ [] → (∀ i a b, c[i]? = some a → c[i + 1]? = some b → (liesF ss a).2 = (liesF ss b).1) →
    (c.map fun s => cE n (liesF ss s)).sum % 2 = (ind (firstF ss c = n) + ind (lastF ss c = n)) % 2
  | [], h, _ => absurd rfl h
  | [a], _, _ => by simp [cE, firstF, lastF, ind]
  | a :: b :: c, _, h => by
    have ih := chain_par n (c := b :: c) (by simp) (lk_tail h)
    have l := h 0 a b rfl rfl
    have e1 : lastF ss (a :: b :: c) = lastF ss (b :: c) := by simp [lastF]
    have e2 : firstF ss (b :: c) = (liesF ss b).1 := rfl
    have e3 : firstF ss (a :: b :: c) = (liesF ss a).1 := rfl
    rw [List.map_cons, List.sum_cons, e1, e3]
    rw [e2] at ih
    have e4 : cE n (liesF ss a) = ind ((liesF ss a).1 = n) + ind ((liesF ss b).1 = n) := by
      unfold cE ind
      rw [l]
    rw [e4]
    omega
theorem sum_flat {α : Type} (f : α → Nat) : ∀ l : List (List α), (l.flatten.map f).sum = (l.map fun c => (c.map f).sum).sum
  | [] => rfl
  | c :: l => by rw [List.flatten_cons, List.map_append, List.sum_append, sum_flat f l]; rfl
theorem ends_cnt (ss : List (Int × Int)) (n : Int) : ∀ lay : List (List (Int × Int)), (endsL ss lay).count n = (lay.map fun c => ind (firstF ss c = n) + ind (lastF ss c = n)).sum
  | [] => rfl
  | c :: lay => by
    have ih := ends_cnt ss n lay
    unfold endsL at ih ⊢
    rw [List.map_cons, List.flatten_cons, List.count_append, ih, List.map_cons, List.sum_cons]
    congr 1
    simp only [List.count_cons, List.count_nil, beq_iff_eq, ind]
    omega
theorem sum_par {α : Type} {f g : α → Nat} : ∀ {l : List α}, (∀ a ∈ l, f a % 2 = g a % 2) → (l.map f).sum % 2 = (l.map g).sum % 2
  | [], _ => rfl
  | a :: l, h => by
    have h1 := h a List.mem_cons_self
    have h2 := sum_par fun b hb => h b (List.mem_cons_of_mem _ hb)
    rw [List.map_cons, List.map_cons, List.sum_cons, List.sum_cons]
    omega
theorem deg_lay {ss : List (Int × Int)} {lay : List (List (Int × Int))} (h : LayOk ss lay) (n : Int) : deg ss n % 2 = (endsL ss lay).count n % 2 := by
  have e1 : deg ss n = (lay.map fun c => (c.map fun s => cE n (liesF ss s)).sum).sum := by
    rw [← sum_flat, cnt_all]
    have e : (ss.map (cE n)).sum = ((upTo ss.length).map fun i => cE n (stAt ss i)).sum := by
      unfold upTo
      rw [List.map_map]
      have := congrArg (fun l => (l.map (cE n)).sum) (range_map ss)
      simp only [List.map_map] at this
      exact this.symm
    rw [e, ← sumN_perm (h.pl.map fun i => cE n (stAt ss i)), List.map_map]
    congr 1
    refine List.map_congr_left fun s _ => ?_
    show cE n (stAt ss s.1) = cE n (turnF (stAt ss s.1) s.2)
    rw [cE_turn]
  rw [e1, ends_cnt]
  exact sum_par fun c hc => chain_par n (h.ch c hc).ne (h.ch c hc).lk
theorem odd_in {ss : List (Int × Int)} {lay : List (List (Int × Int))} (h : LayOk ss lay) {n : Int} (ho : od ss n = true) : n ∈ endsL ss lay := by
  unfold od at ho
  rw [decide_eq_true_eq] at ho
  have := deg_lay h n
  exact List.count_pos_iff.mp (by omega)

/-! ### each chain lies within one group -/
theorem turn_in {N : List Int} {ss : List (Int × Int)} (hN : ∀ s ∈ ss, s.1 ∈ N ↔ s.2 ∈ N) {st : Int × Int} (h : okStep ss.length st) : (liesF ss st).1 ∈ N ↔ (liesF ss st).2 ∈ N := by
  have hm : stAt ss st.1 ∈ ss := by
    have := h.1
    unfold stAt
    rw [List.getD_eq_getElem?_getD, List.getElem?_eq_getElem (by omega)]
    exact List.getElem_mem _
  unfold liesF turnF
  split
  · exact (hN _ hm).symm
  · exact hN _ hm
theorem chain_in {N : List Int} {ss : List (Int × Int)} (hN : ∀ s ∈ ss, s.1 ∈ N ↔ s.2 ∈ N) : ∀ {c : List (Int × Int)}, (∀ s ∈ c, okStep ss.length s) → (∀ i a b, c[i]? = some a → c[i + 1]? = some b → (liesF ss a).2 = (liesF ss b).1) →
    ∀ s ∈ c, ((liesF ss s).1 ∈ N ↔ firstF ss c ∈ N) ∧ ((liesF ss s).2 ∈ N ↔ firstF ss c ∈ N)
  | [], _, _, s, hs => absurd hs (by simp)
  | [a], st, _, s, hs => by
    rw [List.mem_singleton] at hs
    subst hs
    have := turn_in hN (st s (by simp))
    exact ⟨Iff.rfl, this.symm⟩
  | a :: b :: c, st, h, s, hs => by
    have ta := turn_in hN (st a (by simp))
    have ih := chain_in hN (c := b :: c) (fun s hs => st s (List.mem_cons_of_mem _ hs)) (lk_tail h)
    have l := h 0 a b rfl rfl
    have e : firstF ss (b :: c) ∈ N ↔ firstF ss (a :: b :: c) ∈ N := by
      show (liesF ss b).1 ∈ N ↔ (liesF ss a).1 ∈ N
      rw [← l]; exact ta.symm
    rcases List.mem_cons.mp hs with z | z
    · subst z; exact ⟨Iff.rfl, ta.symm⟩
    · obtain ⟨x, y⟩ := ih s z
      exact ⟨x.trans e, y.trans e⟩
theorem last_mem {c : List (Int × Int)} (h : c ≠ []) : c.getLastD (0, 0) ∈ c := by
  cases c with
  | nil => exact absurd rfl h
  | cons a c =>
    rw [List.getLastD_eq_getLast?, List.getLast?_eq_some_getLast (by simp)]
    exact List.getLast_mem _
theorem head_mem {c : List (Int × Int)} (h : c ≠ []) : c.headD (0, 0) ∈ c := by
  cases c with
  | nil => exact absurd rfl h
  | cons a c => exact List.mem_cons_self
theorem nodup_sub {a b : List Int} (nd : a.Nodup) (h : ∀ x ∈ a, x ∈ b) : a.length ≤ b.length := by
  have p : a.Perm ((dd b).filter fun x => decide (x ∈ a)) := perm_of_mem nd ((dd_nd b).filter _) fun x => by
    rw [List.mem_filter, dd_mem, decide_eq_true_eq]
    exact ⟨fun z => ⟨h x z, z⟩, fun z => z.2⟩
  have h1 := p.length_eq
  have h2 := List.length_filter_le (fun x => decide (x ∈ a)) (dd b)
  have h3 := dd_len b
  omega
theorem ends_len (ss : List (Int × Int)) : ∀ lay : List (List (Int × Int)), (endsL ss lay).length = 2 * lay.length
  | [] => rfl
  | c :: lay => by
    have ih := ends_len ss lay
    unfold endsL at ih ⊢
    rw [List.map_cons, List.flatten_cons, List.length_append, ih]
    simp only [List.length_cons, List.length_nil]
    omega
theorem ends_mem' {ss : List (Int × Int)} {lay : List (List (Int × Int))} {n : Int} : n ∈ endsL ss lay ↔ ∃ c ∈ lay, n = firstF ss c ∨ n = lastF ss c := by
  unfold endsL
  rw [List.mem_flatten]
  constructor
  · rintro ⟨l, hl, hn⟩
    obtain ⟨c, hc, rfl⟩ := List.mem_map.mp hl
    exact ⟨c, hc, by simpa using hn⟩
  · rintro ⟨c, hc, hn⟩
    exact ⟨_, List.mem_map.mpr ⟨c, hc, rfl⟩, by simpa using hn⟩
theorem v_le {ss : List (Int × Int)} {lay : List (List (Int × Int))} (h : LayOk ss lay) {N : List Int} (hN : N ∈ NF ss) : vF ss N ≤ ((lay.filter fun c => decide (firstF ss c ∈ N)).length : Int) := by
  have isn := NF_is ss
  have cl := isn.closed N hN
  have inN : ∀ c ∈ lay, ∀ s ∈ c, ((liesF ss s).1 ∈ N ↔ firstF ss c ∈ N) ∧ ((liesF ss s).2 ∈ N ↔ firstF ss c ∈ N) := fun c hc => chain_in cl (h.ch c hc).st (h.ch c hc).lk
  have h1 : 1 ≤ (lay.filter fun c => decide (firstF ss c ∈ N)).length := by
    obtain ⟨n, hn⟩ := List.exists_mem_of_ne_nil N (isn.ne N hN)
    obtain ⟨s, hs, e⟩ := allE_mem.mp ((isn.cover n).mp ⟨N, hN, hn⟩)
    obtain ⟨i, hi, e2⟩ := List.mem_iff_getElem.mp hs
    have him : ((i : Nat) : Int) ∈ upTo ss.length := List.mem_map.mpr ⟨i, List.mem_range.mpr hi, rfl⟩
    obtain ⟨st, hst, e3⟩ := List.mem_map.mp (h.pl.mem_iff.mpr him)
    obtain ⟨c, hc, hsc⟩ := List.mem_flatten.mp hst
    have eS : stAt ss st.1 = s := by
      rw [e3]
      unfold stAt
      rw [Int.toNat_natCast, List.getD_eq_getElem?_getD, List.getElem?_eq_getElem hi]
      exact e2
    obtain ⟨a, b⟩ := inN c hc st hsc
    have key : firstF ss c ∈ N := by
      unfold liesF turnF at a b
      rw [eS] at a b
      split at a <;> split at b <;> rcases e with e | e <;> first
        | exact a.mp (by simpa [e] using hn)
        | exact b.mp (by simpa [e] using hn)
        | (exfalso; contradiction)
    exact List.length_pos_of_mem (List.mem_filter.mpr ⟨hc, by simpa using key⟩)
  have h2 : oddc ss N ≤ 2 * (lay.filter fun c => decide (firstF ss c ∈ N)).length := by
    rw [← ends_len ss]
    refine nodup_sub ((isn.nd N hN).filter _) fun n hn => ?_
    obtain ⟨hn1, hn2⟩ := List.mem_filter.mp hn
    obtain ⟨c, hc, e⟩ := ends_mem'.mp (odd_in h hn2)
    refine ends_mem'.mpr ⟨c, List.mem_filter.mpr ⟨hc, ?_⟩, e⟩
    rw [decide_eq_true_eq]
    rcases e with e | e
    · rw [← e]; exact hn1
    · have := (inN c hc _ (last_mem (h.ch c hc).ne)).2
      exact this.mp (by rw [← show n = (liesF ss (c.getLastD (0, 0))).2 from e]; exact hn1)
  unfold vF
  omega
theorem sum_dj {α : Type} (f : α → Int) : ∀ (gs : List (List Int)) (l : List α), gs.Pairwise (fun a b => ∀ x, x ∈ a → ¬ x ∈ b) → (gs.map fun N => (l.filter fun c => decide (f c ∈ N)).length).sum ≤ l.length
  | [], l, _ => Nat.zero_le _
  | N :: gs, l, h => by
    obtain ⟨h1, h2⟩ := List.pairwise_cons.mp h
    have ih := sum_dj f gs (l.filter fun c => !decide (f c ∈ N)) h2
    have e : (gs.map fun M => (l.filter fun c => decide (f c ∈ M)).length) = gs.map fun M => ((l.filter fun c => !decide (f c ∈ N)).filter fun c => decide (f c ∈ M)).length := List.map_congr_left fun M hM => by
      rw [List.filter_filter]
      congr 1
      refine List.filter_congr fun c _ => ?_
      by_cases z : f c ∈ M
      · have : ¬ f c ∈ N := fun y => h1 M hM _ y z
        simp [z, this]
      · simp [z]
    have q : (l.filter fun c => decide (f c ∈ N)).length + (l.filter fun c => !decide (f c ∈ N)).length = l.length := by
      have : ∀ m : List α, (m.filter fun c => decide (f c ∈ N)).length + (m.filter fun c => !decide (f c ∈ N)).length = m.length := by
        intro m
        induction m with
        | nil => rfl
        | cons x m ih => by_cases z : f x ∈ N <;> simp [z] <;> omega
      exact this l
    rw [List.map_cons, List.sum_cons, e]
    omega
theorem few_le {ss : List (Int × Int)} {lay : List (List (Int × Int))} (h : LayOk ss lay) : fewF ss ≤ (lay.length : Int) := by
  rw [few_is]
  have s := sum_dj (firstF ss) (NF ss) lay (NF_is ss).dj
  have key : ∀ gs : List (List Int), (∀ N ∈ gs, N ∈ NF ss) → sumV ss gs ≤ (((gs.map fun N => (lay.filter fun c => decide (firstF ss c ∈ N)).length).sum : Nat) : Int) := by
    intro gs
    induction gs with
    | nil => intro _; exact Int.le_refl _
    | cons N gs ih =>
      intro hg
      have h1 := v_le h (hg N List.mem_cons_self)
      have h2 := ih fun M hM => hg M (List.mem_cons_of_mem _ hM)
      unfold sumV at h2 ⊢
      rw [List.map_cons, List.sum_cons, List.map_cons, List.sum_cons]
      omega
  have := key (NF ss) fun _ z => z
  omega

/-! ### the checker lets a laying by -/
theorem stepOf_st (s : Int × Int) : stepOf (stD s) = s := rfl
theorem places_lay (lay : List (List (Int × Int))) : placesOf (lay.map stonesD) = lay.flatten.map Prod.fst := by
  unfold placesOf
  rw [List.map_map, List.map_flatten]
  congr 1
  refine List.map_congr_left fun c _ => ?_
  show ((c.map stD).map fun s => (stepOf s).1) = _
  rw [List.map_map]
  rfl
theorem chain_ok {ss : List (Int × Int)} {c : List (Int × Int)} (h : ChainOk ss c) : chainB ss (stonesD c) = true := by
  show (decide (c.map stD ≠ []) && (c.map stD).all (stepB ss.length) && (List.range ((c.map stD).length - 1)).all fun k => meetB ss ((c.map stD).getD k .none) ((c.map stD).getD (k + 1) .none)) = true
  rw [Bool.and_eq_true, Bool.and_eq_true, decide_eq_true_eq]
  refine ⟨⟨fun e => h.ne (List.map_eq_nil_iff.mp e), ?_⟩, ?_⟩
  · rw [List.all_map]
    exact List.all_eq_true.mpr fun s hs => decide_eq_true (h.st s hs)
  · refine List.all_eq_true.mpr fun k hk => ?_
    have hk := List.mem_range.mp hk
    rw [List.length_map] at hk
    have g : ∀ j, (hj : j < c.length) → (c.map stD).getD j .none = stD c[j] := fun j hj => by
      rw [List.getD_eq_getElem?_getD, List.getElem?_map, List.getElem?_eq_getElem hj]; rfl
    unfold meetB
    rw [g k (by omega), g (k + 1) (by omega), stepOf_st, stepOf_st, decide_eq_true_eq]
    exact h.lk k _ _ (List.getElem?_eq_getElem (by omega)) (List.getElem?_eq_getElem (by omega))
theorem lay_ok {ss : List (Int × Int)} {lay : List (List (Int × Int))} (h : LayOk ss lay) : layB ss (layD lay) = true := by
  show ((lay.map stonesD).all (chainB ss) && decide (isort (placesOf (lay.map stonesD)) = upTo ss.length)) = true
  rw [Bool.and_eq_true, decide_eq_true_eq, List.all_map]
  refine ⟨List.all_eq_true.mpr fun c hc => chain_ok (h.ch c hc), ?_⟩
  rw [places_lay]
  exact (isort_is h.pl.symm (upTo_rise _)).symm
theorem lay_len {ss : List (Int × Int)} {lay : List (List (Int × Int))} (h : LayOk ss lay) : lay.length ≤ ss.length ∧ ∀ c ∈ lay, c.length ≤ ss.length := by
  have e : lay.flatten.length = ss.length := by
    have := h.pl.length_eq
    rw [List.length_map] at this
    rw [this]
    simp [upTo]
  have key : ∀ l : List (List (Int × Int)), (∀ c ∈ l, c ≠ []) → l.length ≤ l.flatten.length ∧ ∀ c ∈ l, c.length ≤ l.flatten.length := by
    intro l
    induction l with
    | nil => intro _; exact ⟨Nat.le_refl _, fun c hc => absurd hc (by simp)⟩
    | cons c l ih =>
      intro hn
      have h1 := List.length_pos_iff.mpr (hn c List.mem_cons_self)
      obtain ⟨h2, h3⟩ := ih fun d hd => hn d (List.mem_cons_of_mem _ hd)
      rw [List.flatten_cons, List.length_append, List.length_cons]
      refine ⟨by omega, fun d hd => ?_⟩
      rcases List.mem_cons.mp hd with z | z
      · subst z; omega
      · have := h3 d z; omega
  have := key lay fun c hc => (h.ch c hc).ne
  rw [e] at this
  exact this
theorem okA_stones {n : Nat} {c : List (Int × Int)} (h : c.length ≤ 1000) : okA (n + 2) (stonesD c) = true := by
  show (decide ((c.map stD).length ≤ 1000) && (c.map stD).all (okA (n + 1))) = true
  rw [List.length_map, decide_eq_true h, Bool.true_and, List.all_map]
  exact List.all_eq_true.mpr fun s _ => by cases n <;> rfl
theorem okA_layD {ss : List (Int × Int)} {lay : List (List (Int × Int))} (h : LayOk ss lay) (hs : ss.length ≤ 60) : okA 4 (layD lay) = true := by
  obtain ⟨a, b⟩ := lay_len h
  show (decide ((lay.map stonesD).length ≤ 1000) && (lay.map stonesD).all (okA 3)) = true
  rw [List.length_map, decide_eq_true (by omega : lay.length ≤ 1000), Bool.true_and, List.all_map]
  exact List.all_eq_true.mpr fun c hc => okA_stones (by have := b c hc; omega)
end PL

/-! R10: drawn layings. -/
namespace PL
open PySem L2
def R_law_lies (as : List Sl) (d : D) : Prop := ∃ ss st, as = [.d (stonesD ss), .d (stD st)] ∧ okStep ss.length st ∧ d = stD (liesF ss st)
def sp_law_lies (K : PySem.W.Frag) : Sp := spR K R_law_lies
def Pre_drawn (as : List Sl) : Prop := ∃ ss ns k, as = [.d (stonesD ss), .s ns, .d (.int k)] ∧ OkS ss ∧ ns.length ≤ 63
def R_drawn (as : List Sl) (d : D) : Prop := ∀ ss ns k, as = [.d (stonesD ss), .s ns, .d (.int k)] → ∃ lay, LayOk ss lay ∧ d = layD lay
def sp_law_drawn (K : PySem.W.Frag) : Sp := spX K Pre_drawn R_drawn
def t_law_lies (K : PySem.W.Frag) (w : World) : TS :=
    (tSeq (tAsg (tOp (rIxL K) (tVar 0) (tOp (rIxT K) (tVar 1) (tC (.int 0)))) (gName 2))
    (tRet (tOp (rIxL K) (tLst (tCons (tVar 2) (tCons (tRevT K (tVar 2)) tNil))) (tOp (rIxT K) (tVar 1) (tC (.int 1))))))

def t_law_drawn (K : PySem.W.Frag) (w : World) : TS :=
    (tSeq (tAsg (tLst tNil) (gName 3))
    (tSeq (tAsg (tLstRg (tRg1 (tCB (cLen K) (tCons (tVar 0) tNil)))) (gName 4))
    (tSeq (tWhile (tTest (tOp (rNeD K) (tVar 4) (tLst tNil)))
    (tSeq (tAsg (tCall (sp_cell K) [] E0 (tCons (tVar 1) (tCons (tOp (rI0 fun i j => .int (i + j)) (tVar 2) (tCB (cLen K) (tCons (tVar 4) tNil))) tNil))) (gName 5))
    (tSeq (tAsg (tBM K "list" rPopAt (tVar 4) (tCons (tOp (rI (fun _ j => 0 < j) fun i j => .int (i % j)) (tVar 5) (tCB (cLen K) (tCons (tVar 4) tNil))) tNil)) (gName 6))
    (tSeq (tAsg (tLst tNil) (gName 7))
    (tSeq (tFor (iRng1 (tCons (tCB (cLen K) (tCons (tVar 3) tNil)) tNil)) (gName 8)
    (tSeq (tAsg (tOp (rIxT K) (tCall (sp_law_lies K) [] E0 (tCons (tVar 0) (tCons (tOp (rIxL K) (tOp (rIxL K) (tVar 3) (tVar 8)) (tUn (rU fun i => .int (-i)) (tC (.int 1)))) tNil))) (tC (.int 1))) (gName 9))
    (tFor (iList K (tLst (tCons (tC (.int 0)) (tCons (tC (.int 1)) tNil)))) (gName 10)
    (tIfS (tTest (tOp (rEq) (tOp (rIxT K) (tCall (sp_law_lies K) [] E0 (tCons (tVar 0) (tCons (tTup (tCons (tVar 6) (tCons (tVar 10) tNil))) tNil))) (tC (.int 0))) (tVar 9)))
    (tDrop (tBM K "list" rAppend (tVar 7) (tCons (tTup (tCons (tVar 8) (tCons (tVar 10) tNil))) tNil)))
    tNext))))
    (tIfS (tOr (tTest (tOp (rEqD K) (tVar 7) (tLst tNil))) (tTest (tOp (rEq) (tOp (rI (fun _ j => 0 < j) fun i j => .int (i % j)) (tOp (rI CDiv fun i j => .int (i / j)) (tVar 5) (tC (.int 100))) (tC (.int 6))) (tC (.int 1)))))
    (tDrop (tBM K "list" rAppend (tVar 3) (tCons (tLst (tCons (tTup (tCons (tVar 6) (tCons (tOp (rI (fun _ j => 0 < j) fun i j => .int (i % j)) (tOp (rI CDiv fun i j => .int (i / j)) (tVar 5) (tC (.int 600))) (tC (.int 2))) tNil))) tNil)) tNil)))
    (tSeq (tAsg (tOp (rIxL K) (tVar 7) (tOp (rI (fun _ j => 0 < j) fun i j => .int (i % j)) (tOp (rI CDiv fun i j => .int (i / j)) (tVar 5) (tC (.int 1200))) (tCB (cLen K) (tCons (tVar 7) tNil)))) (gTup K 2 (gCons (gName 8) (gCons (gName 10) gNil))))
    (tDrop (tBM K "list" rAppend (tOp (rIxL K) (tVar 3) (tVar 8)) (tCons (tTup (tCons (tVar 6) (tCons (tVar 10) tNil))) tNil))))))))))
    (tRet (tVar 3)))))



structure DrI (ss : List (Int × Int)) (lay : List (List (Int × Int))) (left : List Int) : Prop where
  ch : ∀ c ∈ lay, ChainOk ss c
  pl : (lay.flatten.map Prod.fst ++ left).Perm (upTo ss.length)
theorem drI_start (ss : List (Int × Int)) : DrI ss [] (upTo ss.length) := ⟨fun _ h => absurd h (by simp), .refl _⟩
theorem DrI.done {ss : List (Int × Int)} {lay : List (List (Int × Int))} (h : DrI ss lay []) : LayOk ss lay := ⟨h.ch, by simpa using h.pl⟩
theorem one_chain {ss : List (Int × Int)} {st : Int × Int} (h : okStep ss.length st) : ChainOk ss [st] := ⟨by simp, fun s hs => by rw [List.mem_singleton] at hs; subst hs; exact h, fun i a b _ h2 => by simp at h2⟩
theorem snoc_chain {ss : List (Int × Int)} {c : List (Int × Int)} {st : Int × Int} (h : ChainOk ss c) (hs : okStep ss.length st) (hl : lastF ss c = (liesF ss st).1) : ChainOk ss (c ++ [st]) := by
  refine ⟨by simp, fun s hs' => ?_, fun i a b h1 h2 => ?_⟩
  · rcases List.mem_append.mp hs' with z | z
    · exact h.st s z
    · rw [List.mem_singleton] at z; subst z; exact hs
  · by_cases e : i + 1 < c.length
    · rw [List.getElem?_append_left (by omega)] at h1
      rw [List.getElem?_append_left e] at h2
      exact h.lk i a b h1 h2
    · have hi := (List.getElem?_eq_some_iff.mp h2).1
      rw [List.length_append, List.length_singleton] at hi
      have hp := List.length_pos_iff.mpr h.ne
      have ei : i = c.length - 1 := by omega
      subst ei
      rw [List.getElem?_append_left (by omega)] at h1
      rw [List.getElem?_append_right (by omega)] at h2
      have e0 : c.length - 1 + 1 - c.length = 0 := by omega
      rw [e0] at h2
      have h2 : st = b := by simpa using h2
      subst h2
      unfold lastF at hl
      rw [List.getLastD_eq_getLast?, List.getLast?_eq_getElem?, h1] at hl
      exact hl
theorem flat_set {α : Type} (s : α) : ∀ (l : List (List α)) (j : Nat) (c : List α), l[j]? = some c → (l.set j (c ++ [s])).flatten.Perm (s :: l.flatten)
  | [], _, _, h => by simp at h
  | d :: l, 0, c, h => by
    have h : d = c := by simpa using h
    subst h
    rw [List.set_cons_zero, List.flatten_cons, List.flatten_cons, List.append_assoc]
    exact List.perm_middle
  | d :: l, j + 1, c, h => by
    have ih := flat_set s l j c (by simpa using h)
    rw [List.set_cons_succ, List.flatten_cons, List.flatten_cons]
    exact (List.Perm.append_left d ih).trans List.perm_middle
theorem DrI.push {ss : List (Int × Int)} {lay : List (List (Int × Int))} {left l2 : List Int} {st : Int × Int} (h : DrI ss lay left) (hp : left.Perm (st.1 :: l2)) (ht : st.2 = 0 ∨ st.2 = 1) : DrI ss (lay ++ [[st]]) l2 ∧ okStep ss.length st := by
  have hm : st.1 ∈ upTo ss.length := h.pl.mem_iff.mp (List.mem_append_right _ (hp.mem_iff.mpr List.mem_cons_self))
  have ok : okStep ss.length st := by
    obtain ⟨k, hk, e⟩ := List.mem_map.mp hm
    have := List.mem_range.mp hk
    exact ⟨by rw [← e]; exact ⟨by omega, by omega⟩, ht⟩
  refine ⟨⟨fun c hc => ?_, ?_⟩, ok⟩
  · rcases List.mem_append.mp hc with z | z
    · exact h.ch c z
    · rw [List.mem_singleton] at z; subst z; exact one_chain ok
  · rw [List.flatten_append, List.map_append, List.append_assoc]
    exact (List.Perm.append_left _ hp.symm).trans h.pl
theorem DrI.app {ss : List (Int × Int)} {lay : List (List (Int × Int))} {left l2 : List Int} {st : Int × Int} {j : Nat} {c : List (Int × Int)} (h : DrI ss lay left) (hp : left.Perm (st.1 :: l2)) (ht : st.2 = 0 ∨ st.2 = 1) (hc : lay[j]? = some c)
    (hl : lastF ss c = (liesF ss st).1) : DrI ss (lay.set j (c ++ [st])) l2 := by
  have ok := (h.push hp ht).2
  refine ⟨fun d hd => ?_, ?_⟩
  · rcases List.mem_or_eq_of_mem_set hd with z | z
    · exact h.ch d z
    · subst z; exact snoc_chain (h.ch c (List.mem_of_getElem? hc)) ok hl
  · have p := (flat_set st lay j c hc).map Prod.fst
    rw [List.map_cons] at p
    exact ((p.append_right l2).trans (List.perm_middle.symm)).trans ((List.Perm.append_left _ hp.symm).trans h.pl)
theorem erase_perm : ∀ {left : List Int} {j : Nat} {x : Int}, left[j]? = some x → left.Perm (x :: left.eraseIdx j)
  | [], _, _, h => by simp at h
  | y :: l, 0, x, h => by
    have h : y = x := by simpa using h
    subst h; exact .refl _
  | y :: l, j + 1, x, h => by
    have ih := erase_perm (left := l) (j := j) (x := x) (by simpa using h)
    rw [List.eraseIdx_cons_succ]
    exact (ih.cons y).trans (.swap x y _)
theorem eraseIdx_mapL {α β : Type} (f : α → β) : ∀ (l : List α) (j : Nat), (l.map f).eraseIdx j = (l.eraseIdx j).map f
  | [], _ => rfl
  | y :: l, 0 => rfl
  | y :: l, j + 1 => by rw [List.map_cons, List.eraseIdx_cons_succ, List.eraseIdx_cons_succ, List.map_cons, eraseIdx_mapL f l j]
section
variable {E : Ent} {δ δ' : List Sl} {ta tb te tc : TE} {d x y : D} {w : World} {XE : XK}
theorem two_at {α : Type} (x y : α) (c : Int) : atI [x, y] (c % 2) = some (if c % 2 = 1 then y else x) := by
  have h1 : 0 ≤ c % 2 := Int.emod_nonneg _ (by decide)
  have h2 : c % 2 < 2 := Int.emod_lt_of_pos _ (by decide)
  by_cases h : c % 2 = 1
  · rw [if_pos h, h]; exact atI_nat (j := 1) rfl
  · have h0 : c % 2 = 0 := by omega
    rw [if_neg h, h0]; exact atI_nat (j := 0) rfl
theorem evc_law_lies {ss : List (Int × Int)} {st : Int × Int} (ha : Ev E ta δ (stonesD ss)) (hb : Ev E tb δ (stD st)) (h : okStep ss.length st) : Ev E (tCall (sp_law_lies E.K) [] XE (tCons ta (tCons tb tNil))) δ (stD (liesF ss st)) := ev_call (ea_d ha (ea_d hb ea_nil)) ⟨ss, st, rfl, h, rfl⟩
theorem xs_law_lies (ss : List (Int × Int)) (st : Int × Int) (h : okStep ss.length st) : Xs E (t_law_lies E.K w) (argSl [.d (stonesD ss), .d (stD st)] 1) fun o => o = .rt (stD (liesF ss st)) := by
  have g1 := stD_get (ss := ss) h.1
  refine q_asg (d := stD (stAt ss st.1)) (ev_ixL (ev_var rfl) (ev_st0 (s := st) (ev_var rfl)) g1) ?_
  have hat : atI [stD (stAt ss st.1), stD ((stAt ss st.1).2, (stAt ss st.1).1)] st.2 = some (stD (liesF ss st)) := by
    unfold liesF turnF
    rcases h.2 with e | e
    · rw [e]; exact atI_nat (j := 0) rfl
    · rw [e]; exact atI_nat (j := 1) rfl
  exact xs_ret (ev_ixL (xs := [stD (stAt ss st.1), stD ((stAt ss st.1).2, (stAt ss st.1).1)]) (ev_lst (ed_cons (ev_var rfl) (ed_cons (ev_revT (ev_var rfl)) ed_nil)) (by show 2 ≤ 100000; decide)) (ev_st1 (s := st) (ev_var rfl)) hat) rfl
theorem last_at {c : List (Int × Int)} (h : c ≠ []) : atI (c.map stD) (-1) = some (stD (c.getLastD (0, 0))) := by
  have hp := List.length_pos_iff.mpr h
  unfold atI ixN
  rw [if_neg (by decide)]
  rw [List.length_map]
  have e : (-1 + (c.length : Int)).toNat = c.length - 1 := by omega
  have e2 : (c.map stD)[c.length - 1]? = some (stD (c.getLastD (0, 0))) := by
    rw [List.getElem?_map, List.getLastD_eq_getLast?, List.getLast?_eq_getElem?, List.getElem?_eq_getElem (by omega)]
    rfl
  rw [if_pos (by omega)]
  simpa [e] using e2
/-- a place in the found chains where the stone may be put -/
def Fits (ss : List (Int × Int)) (lay : List (List (Int × Int))) (x : Int) (h : Int × Int) : Prop := ∃ (j : Nat) (c : List (Int × Int)), h.1 = (j : Int) ∧ lay[j]? = some c ∧ (h.2 = 0 ∨ h.2 = 1) ∧ lastF ss c = (liesF ss (x, h.2)).1
theorem xs_law_drawn (as : List Sl) (hp : Pre_drawn as) : Xs E (t_law_drawn E.K w) (argSl as 8) fun o => ∃ d, R_drawn as d ∧ o = .rt d := by
  obtain ⟨ss, ns, k, rfl, hs, hz⟩ := hp
  have h60 := hs.len
  refine q_asgNest ?_
  have q1 : EvF E (tLstRg (tRg1 (tCB (cLen E.K) (tCons (tVar 0) tNil)))) [.d (stonesD ss), .s ns, .d (.int k), nest [], .no, .no, .no, .no, .no, .no, .no] ((upTo ss.length).map PyData.int) := by
    unfold upTo
    rw [← range_ints]
    exact evF_listRg (ev_lenSt (ev_var rfl)) ⟨by omega, by omega⟩
  refine q_asgF q1 ?_
  refine xs_seq (xs_while (fun m δ => ∃ lay left s5 s6 s7 s8 s9 s10, m = left.length ∧ DrI ss lay left ∧ δ = [.d (stonesD ss), .s ns, .d (.int k), nest (lay.map fun c => c.map stD), .ow (left.map .int), s5, s6, s7, s8, s9, s10]) (upTo ss.length).length ⟨[], _, _, _, _, _, _, _, rfl, drI_start ss, rfl⟩ ?_)
  rintro m δ' ⟨lay, left, s5, s6, s7, s8, s9, s10, rfl, di, rfl⟩
  refine ⟨decide (left ≠ []), ne_nilO rfl, fun e => ?_, fun e => ?_⟩
  · have hne : left ≠ [] := by simpa using e
    have hpos := List.length_pos_iff.mpr hne
    have hll : lay.flatten.length + left.length = ss.length := by
      have := di.pl.length_eq
      rw [List.length_append, List.length_map] at this
      simpa [upTo] using this
    have hlay : lay.length ≤ lay.flatten.length ∧ ∀ c ∈ lay, c.length ≤ lay.flatten.length := by
      have key : ∀ l : List (List (Int × Int)), (∀ c ∈ l, c ≠ []) → l.length ≤ l.flatten.length ∧ ∀ c ∈ l, c.length ≤ l.flatten.length := by
        intro l
        induction l with
        | nil => intro _; exact ⟨Nat.le_refl _, fun c hc => absurd hc (by simp)⟩
        | cons c l ih =>
          intro hn
          have h1 := List.length_pos_iff.mpr (hn c List.mem_cons_self)
          obtain ⟨h2, h3⟩ := ih fun d hd => hn d (List.mem_cons_of_mem _ hd)
          rw [List.flatten_cons, List.length_append, List.length_cons]
          refine ⟨by omega, fun d hd => ?_⟩
          rcases List.mem_cons.mp hd with z | z
          · subst z; omega
          · have := h3 d z; omega
      exact key lay fun c hc => (di.ch c hc).ne
    obtain ⟨hl1, hl2⟩ := hlay
    refine q_asg (d := .int (cellF ns (k + (left.length : Int)))) (evc_cell rfl hz (ev_add (ev_var rfl) ((ev_lenO rfl).is (by rw [List.length_map])))) ?_
    have hcb := cellF_b ns (k + (left.length : Int))
    generalize cellF ns (k + (left.length : Int)) = c at hcb ⊢
    have h1 : 0 ≤ c % (left.length : Int) := Int.emod_nonneg _ (by omega)
    have h2 : c % (left.length : Int) < (left.length : Int) := Int.emod_lt_of_pos _ (by omega)
    obtain ⟨j, hj⟩ : ∃ j : Nat, c % (left.length : Int) = (j : Int) := ⟨_, (Int.toNat_of_nonneg h1).symm⟩
    have hjl : j < left.length := by omega
    generalize hx : left[j] = x
    have hx' : left[j]? = some x := by rw [List.getElem?_eq_getElem hjl, hx]
    have lp := erase_perm hx'
    refine q_asgM (evM_popAt (n := 4) (j := j) (xs := left.map .int) (d := .int x) rfl (ev_mod (ev_var rfl) ((ev_lenO rfl).is (by rw [List.length_map])) (by omega)) hj (by omega) (by rw [List.getElem?_map, hx']; rfl)) ?_
    have el : (left.map PyData.int).eraseIdx j = (left.eraseIdx j).map .int := eraseIdx_mapL _ _ _
    show Xs E _ [.d (stonesD ss), .s ns, .d (.int k), nest (lay.map fun c => c.map stD), .ow ((left.map PyData.int).eraseIdx j), .d (.int c), .d (.int x), s7, s8, s9, s10] _
    rw [el]
    have le2 : (left.eraseIdx j).length = left.length - 1 := by rw [List.length_eraseIdx]; simp [hjl]
    generalize left.eraseIdx j = l2 at lp le2 ⊢
    refine q_asgF (evF_lst ed_nil (by decide)) ?_
    have okx : ∀ t : Int, (t = 0 ∨ t = 1) → okStep ss.length (x, t) := fun t ht => (di.push (st := (x, t)) lp ht).2
    have lend3 : ∀ (s7 s8 s9 s10 : Sl) (i : Nat) (cc : List (Int × Int)), lay[i]? = some cc → Ev E (tOp (rIxT E.K) (tCall (sp_law_lies E.K) [] E0 (tCons (tVar 0) (tCons (tOp (rIxL E.K) (tOp (rIxL E.K) (tVar 3) (tVar 8)) (tUn (rU fun i => .int (-i)) (tC (.int 1)))) tNil))) (tC (.int 1))) [.d (stonesD ss), .s ns, .d (.int k), nest (lay.map fun c => c.map stD), .ow (l2.map .int), .d (.int c), .d (.int x), s7, .d (.int (i : Int)), s9, s10] (.int (lastF ss cc)) := fun s7 s8 s9 s10 i cc hi => by
      have cok := di.ch cc (List.mem_of_getElem? hi)
      refine Ev.lendM (i := 3) rfl ?_ rfl
      refine ev_st1 (evc_law_lies (st := cc.getLastD (0, 0)) (ev_var rfl) (ev_ixL (xs := cc.map stD) (ev_ixL (xs := (lay.map fun c => c.map stD).map .list) (i := (i : Int)) (ev_var rfl) (ev_var rfl) (atI_nat (by rw [List.getElem?_map, List.getElem?_map, hi]; rfl))) (ev_neg ev_int) (last_at cok.ne)) (cok.st _ (last_mem cok.ne)))
    refine xs_seq (xs_for (ei_range1 (n := (lay.length : Int)) (ed_cons (Ev.lendM (i := 3) rfl ((ev_lenL (xs := (lay.map fun c => c.map stD).map .list) (ev_var rfl)).is (by rw [List.length_map, List.length_map])) rfl) ed_nil) (by omega)) (fun i δ => ∃ hh s8 s9 s10, hh.length ≤ 2 * i ∧ (∀ h ∈ hh, Fits ss lay x h) ∧ δ = [.d (stonesD ss), .s ns, .d (.int k), nest (lay.map fun c => c.map stD), .ow (l2.map .int), .d (.int c), .d (.int x), .ow (hh.map stD), s8, s9, s10]) ⟨[], _, _, _, Nat.le_refl _, fun _ h => absurd h (by simp), rfl⟩ ?_ ?_)
    · rintro i y δ' hy ⟨hh, s8, s9, s10, hhl, hfit, rfl⟩
      have hi := (List.getElem?_eq_some_iff.mp hy).1
      rw [intsD_len] at hi
      rw [intsD_get hi, Option.some_inj] at hy
      subst hy
      have hi' : i < lay.length := by omega
      refine ⟨_, _, tg_name, ?_⟩
      have e0 : (0 : Int) + (i : Int) = (i : Int) := Int.zero_add _
      rw [e0]
      have hcc := List.getElem?_eq_getElem hi'
      generalize lay[i] = cc at hcc
      refine q_asg (lend3 _ .no s9 s10 i cc hcc) ?_
      refine xs_for (ei_list (xs := [.int 0, .int 1]) (ev_lst (ed_cons ev_int (ed_cons ev_int ed_nil)) (by show 2 ≤ 100000; decide))) (fun t δ => ∃ hh s10, hh.length ≤ 2 * i + t ∧ (∀ h ∈ hh, Fits ss lay x h) ∧ δ = [.d (stonesD ss), .s ns, .d (.int k), nest (lay.map fun c => c.map stD), .ow (l2.map .int), .d (.int c), .d (.int x), .ow (hh.map stD), .d (.int (i : Int)), .d (.int (lastF ss cc)), s10]) ⟨hh, s10, hhl, hfit, rfl⟩ ?_ ?_
      · rintro t z δ' hzz ⟨hh, s10, hhl, hfit, rfl⟩
        have tl : t < 2 := (List.getElem?_eq_some_iff.mp hzz).1
        obtain ⟨tt, rfl, htt⟩ : ∃ tt : Int, z = .int tt ∧ (tt = 0 ∨ tt = 1) := by
          match t, tl with
          | 0, _ => exact ⟨0, by simpa using hzz.symm, .inl rfl⟩
          | 1, _ => exact ⟨1, by simpa using hzz.symm, .inr rfl⟩
        refine ⟨_, _, tg_name, ?_⟩
        refine xs_if (b := decide ((liesF ss (x, tt)).1 = lastF ss cc)) (et_test (ev_eqI (ev_st0 (evc_law_lies (st := (x, tt)) (ev_var rfl) (ev_tup (ds := [.int x, .int tt]) (ed_cons (ev_var rfl) (ed_cons (ev_var rfl) ed_nil)) (by show 2 ≤ 100000; decide)) (okx tt htt))) (ev_var rfl))) (fun e => ?_) fun e => ?_
        · have e : (liesF ss (x, tt)).1 = lastF ss cc := by simpa using e
          refine xs_drop (evM_append (n := 7) (d := stD ((i : Int), tt)) rfl (ev_tup (ed_cons (ev_var rfl) (ed_cons (ev_var rfl) ed_nil)) (by show 2 ≤ 100000; decide)) (by rw [List.length_map]; omega)) ⟨hh ++ [((i : Int), tt)], .d (.int tt), by simp; omega, fun h hm => ?_, ?_⟩
          · rcases List.mem_append.mp hm with q | q
            · exact hfit h q
            · rw [List.mem_singleton] at q
              subst q
              exact ⟨i, cc, rfl, hcc, htt, e.symm⟩
          · rw [List.map_append]
            rfl
        · exact xs_next ⟨hh, _, by omega, hfit, rfl⟩
      · rintro δ' ⟨hh, s10, hhl, hfit, rfl⟩
        exact ⟨hh, _, _, _, by have : hh.length ≤ 2 * i + 2 := hhl; omega, hfit, rfl⟩
    · rintro δ' ⟨hh, s8, s9, s10, hhl, hfit, rfl⟩
      rw [intsD_len] at hhl
      have hhl : hh.length ≤ 2 * lay.length := by simpa using hhl
      have nil : Ev E (tOp (rEqD E.K) (tVar 7) (tLst tNil)) [.d (stonesD ss), .s ns, .d (.int k), nest (lay.map fun c => c.map stD), .ow (l2.map .int), .d (.int c), .d (.int x), .ow (hh.map stD), s8, s9, s10] (.bool (decide (hh = []))) := by
        refine Ev.lend (i := 7) rfl ?_ rfl
        refine (ev_eqD (d1 := stonesD hh) (ev_var rfl) (ev_lst ed_nil (by decide)) (shp_stones hh) shp_nil).is ?_
        show PyData.bool (PyData.eqv (.list (hh.map stD)) (.list [])) = _
        rw [eqv_nil]
        cases hh <;> simp
      refine xs_if (b := decide (hh = []) || decide (c / 100 % 6 = 1)) (et_or (et_test nil) fun _ => et_test (ev_eqI (ev_mod (ev_fdiv (ev_var rfl) ev_int ⟨by decide, by decide⟩) ev_int (by decide)) ev_int)) (fun e => ?_) fun e => ?_
      · have ht : c / 600 % 2 = 0 ∨ c / 600 % 2 = 1 := by
          have := Int.emod_nonneg (c / 600) (show (2 : Int) ≠ 0 by decide)
          have := Int.emod_lt_of_pos (c / 600) (show (0 : Int) < 2 by decide)
          omega
        have dp := (di.push (st := (x, c / 600 % 2)) lp ht).1
        refine xs_drop (evM_nestPush (i := 3) (xs := [stD (x, c / 600 % 2)]) rfl (evF_lst (ed_cons (ev_tup (ed_cons (ev_var rfl) (ed_cons (ev_mod (ev_fdiv (ev_var rfl) ev_int ⟨by decide, by decide⟩) ev_int (by decide)) ed_nil)) (by show 2 ≤ 100000; decide)) ed_nil) (by show 1 ≤ 100000; decide)) (by rw [List.length_map]; omega)) ?_
        refine ⟨l2.length, by omega, lay ++ [[(x, c / 600 % 2)]], l2, .d (.int c), .d (.int x), .ow (hh.map stD), s8, s9, s10, rfl, dp, ?_⟩
        rw [List.map_append]
        rfl
      · have hh0 : hh ≠ [] := by
          intro z
          rw [z] at e
          simp at e
        have hp := List.length_pos_iff.mpr hh0
        have g1 : 0 ≤ c / 1200 % (hh.length : Int) := Int.emod_nonneg _ (by omega)
        have g2 : c / 1200 % (hh.length : Int) < (hh.length : Int) := Int.emod_lt_of_pos _ (by omega)
        have at1 := stD_get (ss := hh) ⟨g1, g2⟩
        generalize hfq : hh.getD (c / 1200 % (hh.length : Int)).toNat (0, 0) = f at at1
        have hfm : f ∈ hh := by
          rw [← hfq, List.getD_eq_getElem?_getD, List.getElem?_eq_getElem (by omega)]
          exact List.getElem_mem _
        obtain ⟨i, cc, e1, hcc, ht, hl⟩ := hfit f hfm
        obtain ⟨f1, f2⟩ := f
        have e1 : f1 = (i : Int) := e1
        subst e1
        have hi' := (List.getElem?_eq_some_iff.mp hcc).1
        have ccl := hl2 cc (List.mem_of_getElem? hcc)
        refine xs_seq (xs_asgT (x := stD ((i : Int), f2)) (ev_ixO (n := 7) (xs := hh.map stD) rfl (ev_mod (ev_fdiv (ev_var rfl) ev_int ⟨by decide, by decide⟩) ((ev_lenO rfl).is (by rw [List.length_map])) (by omega)) at1) (tg_two (i := 8) (j := 10)) ?_)
        refine xs_drop (evM_nestApp (i := 3) (j := i) (xs := cc.map stD) (d := stD (x, f2)) rfl (ev_var rfl) rfl (by rw [List.getElem?_map, hcc]; rfl) (ev_tup (ed_cons (ev_var rfl) (ed_cons (ev_var rfl) ed_nil)) (by show 2 ≤ 100000; decide)) (by rw [List.length_map]; omega)) ?_
        refine ⟨l2.length, by omega, lay.set i (cc ++ [(x, f2)]), l2, .d (.int c), .d (.int x), .ow (hh.map stD), .d (.int (i : Int)), s9, .d (.int f2), rfl, di.app (st := (x, f2)) lp ht hcc hl, ?_⟩
        rw [List.map_set, List.map_append]
        rfl
  · have hl : left = [] := by simpa using e
    subst hl
    refine xs_shareM (i := 3) rfl ?_
    refine xs_ret (ev_var rfl) ⟨_, fun ss' ns' k' e => ⟨lay, ?_, ?_⟩, rfl⟩
    · have e1 : ss' = ss := by
        injection e with e1 _
        injection e1 with e1
        unfold stonesD at e1
        injection e1 with e1
        have inj : ∀ {a b : List (Int × Int)}, a.map stD = b.map stD → a = b := by
          intro a
          induction a with
          | nil => intro b h; cases b with | nil => rfl | cons _ _ => cases h
          | cons x a ih =>
            intro b h
            cases b with
            | nil => cases h
            | cons y b =>
              rw [List.map_cons, List.map_cons] at h
              injection h with h1 h2
              have : x = y := by
                unfold stD at h1
                injection h1 with h1
                injection h1 with h3 h4
                injection h4 with h4 _
                injection h3 with h3
                injection h4 with h4
                exact Prod.ext h3 h4
              rw [this, ih h2]
        exact (inj e1).symm
      rw [e1]; exact di.done
    · unfold layD stonesD
      rw [List.map_map]
      rfl
end
end PL

/-! PText: texts: str(i), +, join, split, one sign in a text, int(text). -/
namespace PL
open PySem PySem.Spec PyProof.Rows L2 TL
def oJoin (K : PySem.W.Frag) : V → List V → Hp → VK → Prop := fun x xs H Q => ∃ a p, ∃ ys : List Str, x = .str a ∧ xs = [.ref p] ∧ (SqL K H p (ys.map V.str) ∨ SqT K H p (ys.map V.str)) ∧
      (ys.map (·.length)).sum + ys.length * a.length ≤ 16777216 ∧ Q (.str (Txt.join a ys)) H
def oSplit : V → List V → Hp → VK → Prop := fun x xs H Q => ∃ a b, x = .str a ∧ xs = [.str b] ∧ (b.length == 0) = false ∧ a.length + 2 ≤ sizeLine ∧ rNewStrs (Txt.split a b) H Q
def oInSg : R2 := fun x y H Q => ∃ (c : Nat) (z : Str), x = .str ⟨#[c]⟩ ∧ y = .str z ∧ Q (.bl (decide (c ∈ z.cps.toList))) H
def oNotInSg : R2 := fun x y H Q => ∃ (c : Nat) (z : Str), x = .str ⟨#[c]⟩ ∧ y = .str z ∧ Q (.bl (!decide (c ∈ z.cps.toList))) H
def cIntS : List V → Hp → VK → Prop := fun xs H Q => ∃ a n, xs = [.str a] ∧ PySem.intText? a = some n ∧ a.length ≤ 640 ∧ Q (.int n) H
section
variable {E : Ent} {δ δ' : List Sl} {ta tb te tc : TE} {d x y : D}
theorem ev_strI {i : Int} (ha : Ev E ta δ (.int i)) (hz : i.natAbs.log2 < 1920) : Ev E (tCB cStr (tCons ta tNil)) δ (.str (Str.ofString (toString i))) :=
  ev_cb (ed_cons ha ed_nil) (ca_one (w := .str (Str.ofString (toString i))) rfl (fun _ => rfl) fun G H v Q _ r q => by
    have r : v = .int i := r
    subst r
    exact ⟨i, rfl, hz, q⟩)
theorem ev_catX {a b : Str} (ha : Ev E ta δ (.str a)) (hb : Ev E tb δ (.str b)) (hz : a.length + b.length ≤ 1000000) : Ev E (tOp oCatS ta tb) δ (.str (a ++ b)) :=
  ev_op ha hb (op_val (v := .str (a ++ b)) (fun _ _ x y Q _ _ r1 r2 q => ⟨a, b, r1, r2, Nat.le_trans hz (by decide), q⟩) fun _ => rfl)
theorem ev_join {a : Str} {ys : List Str} (ha : Ev E ta δ (.str a)) (hb : Ev E tb δ (.list (ys.map .str))) (hz : (ys.map (·.length)).sum + ys.length * a.length ≤ 1000000) : Ev E (tM1 (oJoin E.K) ta tb) δ (.str (Txt.join a ys)) := fun σ G H Q s k =>
  ha σ G H _ s fun v G1 H1 g1 r1 => by
    have r1 : v = .str a := r1
    subst r1
    refine ⟨⟨a, rfl⟩, hb σ G1 H1 _ (s.grow g1) fun u G2 H2 g2 r2 => ?_⟩
    obtain ⟨p, vs, e, h1, h2⟩ := r2
    subst e
    have e := RpA.of_strs h2
    subst e
    exact ⟨a, p, ys, rfl, rfl, .inl (sqL_of g2.i h1), Nat.le_trans hz (by decide), k _ G2 H2 (g1.trans g2) rfl⟩
theorem evF_split {a b : Str} (ha : Ev E ta δ (.str a)) (hb : Ev E tb δ (.str b)) (h0 : (b.length == 0) = false) (hz : a.length ≤ 1000000) : EvF E (tM1 oSplit ta tb) δ ((Txt.split a b).map .str) := fun σ G H Q s k =>
  ha σ G H _ s fun v G1 H1 g1 r1 => by
    have r1 : v = .str a := r1
    subst r1
    refine ⟨⟨a, rfl⟩, hb σ G1 H1 _ (s.grow g1) fun u G2 H2 g2 r2 => ?_⟩
    have r2 : u = .str b := r2
    subst r2
    have g := g1.trans g2
    refine ⟨a, b, rfl, rfl, h0, Nat.le_trans (Nat.add_le_add_right hz 2) (by decide), fun p hp => ?_⟩
    exact k p _ G2 _ (g.trans (Gr.side g2.i (same_new hp))) (g.h.free hp) (g2.i.free hp) upd_same (RpA.strs _)
theorem ev_inSg {c : Nat} {z : Str} (ha : Ev E ta δ (.str ⟨#[c]⟩)) (hb : Ev E tb δ (.str z)) : Ev E (tOp oInSg ta tb) δ (.bool (decide (c ∈ z.cps.toList))) :=
  ev_op ha hb (op_val (v := .bl (decide (c ∈ z.cps.toList))) (fun _ _ x y Q _ _ r1 r2 q => ⟨c, z, r1, r2, q⟩) fun _ => rfl)
theorem ev_ixSg {z : Str} {i : Int} {c : Nat} (ha : Ev E ta δ (.str z)) (hb : Ev E tb δ (.int i)) (hz : z.length ≤ 1000000) (h : atI z.cps.toList i = some c) : Ev E (tOp rIxS ta tb) δ (.str ⟨#[c]⟩) :=
  ev_op ha hb (op_val (v := .str ⟨#[c]⟩) (fun _ _ x y Q _ _ r1 r2 q => ⟨z, i, c, r1, r2, Nat.le_trans hz (by decide), h, q⟩) fun _ => rfl)
theorem ev_intS {z : Str} {n : Int} (ha : Ev E ta δ (.str z)) (h : PySem.intText? z = some n) (hz : z.length ≤ 640) : Ev E (tCB cIntS (tCons ta tNil)) δ (.int n) :=
  ev_cb (ed_cons ha ed_nil) (ca_one (w := .int n) rfl (fun _ => rfl) fun G H v Q _ r q => by
    have r : v = .str z := r
    subst r
    exact ⟨z, n, rfl, h, hz, q⟩)
end
/-! ### plain facts -/
def numS (i : Int) : Str := Str.ofString (toString i)
def dashS : Str := Str.ofString "-"
def blankS : Str := Str.ofString " "
def barS : Str := Str.ofString " | "
def stS (s : Int × Int) : Str := numS s.1 ++ dashS ++ numS s.2
def textF (ss : List (Int × Int)) : Str := Txt.join blankS (ss.map stS)
theorem num_nat {i : Int} (h : okN i) : ∃ n : Nat, i = (n : Int) ∧ n < 10 ^ 6 ∧ tl (numS i) = numL n := by
  obtain ⟨h1, h2⟩ := h
  refine ⟨i.toNat, by omega, by omega, ?_⟩
  have e : i = ((i.toNat : Nat) : Int) := by omega
  rw [e]
  exact tl_num _
theorem num_len {i : Int} (h : okN i) : 1 ≤ (numS i).length ∧ (numS i).length ≤ 6 := by
  obtain ⟨n, _, h1, h2⟩ := num_nat h
  rw [len_tl, h2]
  exact ⟨List.length_pos_iff.mpr (numL_ne n), numL_len (by decide) h1⟩
theorem numL_head : ∀ (n : Nat), 1 ≤ n → (numL n).head? ≠ some 48 := fun n => by
  induction n using Nat.strongRecOn with
  | _ n ih =>
    intro h
    by_cases c : n < 10
    · rw [numL_lt c]
      intro e
      have e : 48 + n = 48 := by simpa using e
      omega
    · rw [numL_step (by omega), List.head?_append]
      have := ih (n / 10) (by omega) (by omega)
      intro e
      cases q : (numL (n / 10)).head? with
      | none => exact numL_ne _ (List.head?_eq_none_iff.mp q)
      | some x =>
        rw [q] at e
        rw [q] at this
        exact this e
theorem tl_dash : tl dashS = [45] := by decide +kernel
theorem tl_blank : tl blankS = [32] := by decide +kernel
theorem tl_bar : tl barS = [32, 124, 32] := by decide +kernel
theorem num_free {i : Int} (h : okN i) {c : Nat} (hc : c < 48 ∨ 57 < c) : c ∉ tl (numS i) := by
  obtain ⟨n, _, _, h2⟩ := num_nat h
  rw [h2]; exact numL_free hc
theorem st_tl (s : Int × Int) : tl (stS s) = tl (numS s.1) ++ [45] ++ tl (numS s.2) := by
  unfold stS
  rw [tl_append, tl_append, tl_dash]
theorem st_free {s : Int × Int} (h1 : okN s.1) (h2 : okN s.2) : 32 ∉ tl (stS s) := by
  rw [st_tl]
  intro h
  rcases List.mem_append.mp h with h | h
  · rcases List.mem_append.mp h with h | h
    · exact num_free h1 (.inl (by decide)) h
    · simp at h
  · exact num_free h2 (.inl (by decide)) h
theorem st_len {s : Int × Int} (h1 : okN s.1) (h2 : okN s.2) : (stS s).length ≤ 13 := by
  have a := num_len h1
  have b := num_len h2
  rw [len_tl] at a b
  rw [len_tl, st_tl]
  simp only [List.length_append, List.length_cons, List.length_nil]
  omega
theorem st_split {s : Int × Int} (h1 : okN s.1) (h2 : okN s.2) : Txt.split (stS s) dashS = [numS s.1, numS s.2] := by
  have e : stS s = Txt.join dashS [numS s.1, numS s.2] := by rw [join_eq]; rfl
  rw [e]
  refine split_join (s := 45) (S := []) tl_dash (by decide +kernel) (by simp) fun p hp => ?_
  rcases List.mem_cons.mp hp with e | e
  · subst e; exact num_free h1 (.inl (by decide))
  · rw [List.mem_singleton] at e
    subst e; exact num_free h2 (.inl (by decide))
theorem text_split {ss : List (Int × Int)} (hs : ∀ s ∈ ss, okN s.1 ∧ okN s.2) (hne : ss ≠ []) : Txt.split (textF ss) blankS = ss.map stS := by
  refine split_join (s := 32) (S := []) tl_blank (by decide +kernel) (fun e => hne (List.map_eq_nil_iff.mp e)) fun p hp => ?_
  obtain ⟨s, h, rfl⟩ := List.mem_map.mp hp
  exact st_free (hs s h).1 (hs s h).2
theorem join_len (a : Str) : ∀ ys : List Str, (Txt.join a ys).length ≤ (ys.map (·.length)).sum + ys.length * a.length := fun ys => by
  rw [join_eq, len_tl, tl_join, len_tl a]
  have e : (ys.map (·.length)).sum = ((ys.map tl).map List.length).sum := by
    rw [List.map_map]
    exact congrArg List.sum (List.map_congr_left fun y _ => len_tl y)
  rw [e]
  have key : ∀ l : List (List Nat), (joinL (tl a) l).length ≤ (l.map List.length).sum + l.length * (tl a).length := by
    intro l
    induction l with
    | nil => exact Nat.zero_le _
    | cons p l ih =>
      cases l with
      | nil => simp [joinL]
      | cons q r =>
        show (p ++ (tl a ++ joinL (tl a) (q :: r))).length ≤ _
        rw [List.length_append, List.length_append, List.map_cons, List.sum_cons, List.length_cons, Nat.succ_mul]
        omega
  have := key (ys.map tl)
  rw [List.length_map] at this
  exact this
theorem text_len {ss : List (Int × Int)} (hs : ∀ s ∈ ss, okN s.1 ∧ okN s.2) : ((ss.map stS).map (·.length)).sum + (ss.map stS).length * blankS.length ≤ 14 * ss.length := by
  have hb : blankS.length = 1 := by decide +kernel
  rw [hb, List.length_map, Nat.mul_one]
  induction ss with
  | nil => exact Nat.le_refl _
  | cons s ss ih =>
    have h1 := ih fun t ht => hs t (List.mem_cons_of_mem _ ht)
    have h2 := st_len (hs s List.mem_cons_self).1 (hs s List.mem_cons_self).2
    simp only [List.map_cons, List.sum_cons, List.length_cons] at h1 ⊢
    omega
theorem text_ne {ss : List (Int × Int)} (hne : ss ≠ []) : textF ss ≠ Str.ofString "" := fun e => by
  have := congrArg tl e
  unfold textF at this
  rw [join_eq, tl_join] at this
  have e0 : tl (Str.ofString "") = [] := by decide +kernel
  rw [e0] at this
  cases ss with
  | nil => exact hne rfl
  | cons s ss =>
    have hs : tl (stS s) ≠ [] := by rw [st_tl]; simp
    cases ss with
    | nil => exact hs (by simpa [joinL] using this)
    | cons t ss =>
      have : tl (stS s) ++ _ = [] := this
      exact hs (List.append_eq_nil_iff.mp this).1
theorem text_nil : textF [] = Str.ofString "" := by
  unfold textF
  rw [join_eq]
  decide +kernel
end PL

/-! R11: what is written, and read back. -/
namespace PL
open PySem PySem.Spec PyProof.Rows L2 TL
def rowF (ss : List (Int × Int)) (c : List (Int × Int)) : Str := textF (c.map (liesF ss))
def R_stone_text (as : List Sl) (d : D) : Prop := ∃ s, as = [.d (stD s)] ∧ (okN s.1 ∧ okN s.2) ∧ d = .str (stS s)
def sp_stone_text (K : PySem.W.Frag) : Sp := spR K R_stone_text
def R_written (as : List Sl) (d : D) : Prop := ∃ ss, as = [.d (stonesD ss)] ∧ OkS ss ∧ d = .str (textF ss)
def sp_written (K : PySem.W.Frag) : Sp := spR K R_written
def R_laying_text (as : List Sl) (d : D) : Prop := ∃ ss lay, as = [.d (stonesD ss), .d (layD lay)] ∧ OkS ss ∧ LayOk ss lay ∧ d = .str (Txt.join barS (lay.map (rowF ss)))
def sp_laying_text (K : PySem.W.Frag) : Sp := spR K R_laying_text
def R_number_of (as : List Sl) (d : D) : Prop := ∃ i, as = [.d (.str (numS i))] ∧ okN i ∧ d = .int i
def sp_number_of (K : PySem.W.Frag) : Sp := spR K R_number_of
def R_stone_of (as : List Sl) (d : D) : Prop := ∃ s, as = [.d (.str (stS s))] ∧ (okN s.1 ∧ okN s.2) ∧ d = stD s
def sp_stone_of (K : PySem.W.Frag) : Sp := spR K R_stone_of
def R_read (as : List Sl) (ds : List D) : Prop := ∃ ss, as = [.d (.str (textF ss))] ∧ OkS ss ∧ ds = ss.map stD
def sp_read (K : PySem.W.Frag) : Sp := spF K R_read
def R_law_text (as : List Sl) (d : D) : Prop := ∃ ss, as = [.d (stonesD ss)] ∧ OkS ss ∧ d = .str (textF ss)
def sp_law_text (K : PySem.W.Frag) : Sp := spR K R_law_text
def t_stone_text (K : PySem.W.Frag) (w : World) : TS :=
    (tRet (tOp (oCatS) (tOp (oCatS) (tCB (cStr) (tCons (tOp (rIxT K) (tVar 0) (tC (.int 0))) tNil)) (tC (.str (Str.ofString "-")))) (tCB (cStr) (tCons (tOp (rIxT K) (tVar 0) (tC (.int 1))) tNil))))

def t_written (K : PySem.W.Frag) (w : World) : TS :=
    (tSeq (tDrop (tCall (sp_need_stones K) [] E0 (tCons (tVar 0) tNil)))
    (tRet (tM1 (oJoin K) (tC (.str (Str.ofString " "))) (tLc (iList K (tVar 0)) (gName 1) tYes (tCall (sp_stone_text K) [] E0 (tCons (tVar 1) tNil)) [1]))))

def t_laying_text (K : PySem.W.Frag) (w : World) : TS :=
    (tSeq (tIfS (tNot (tB (tCall (sp_is_laying K) [] E0 (tCons (tVar 0) (tCons (tVar 1) tNil)))))
    tNever
    tNext)
    (tSeq (tAsg (tLc (iList K (tVar 1)) (gName 3) tYes (tM1 (oJoin K) (tC (.str (Str.ofString " "))) (tLc (iList K (tVar 3)) (gName 4) tYes (tCall (sp_stone_text K) [] E0 (tCons (tCall (sp_lying K) [] E0 (tCons (tOp (rIxL K) (tVar 0) (tOp (rIxT K) (tVar 4) (tC (.int 0)))) (tCons (tOp (rIxT K) (tVar 4) (tC (.int 1))) tNil))) tNil)) [4])) [3]) (gName 2))
    (tRet (tM1 (oJoin K) (tC (.str (Str.ofString " | "))) (tVar 2)))))

def t_number_of (K : PySem.W.Frag) (w : World) : TS :=
    (tSeq (tIfS (tOr (tNot (tTest (tChain (rI0 fun i j => .bl (decide (i ≤ j))) (rI0 fun i j => .bl (decide (i ≤ j))) (tC (.int 1)) (tCB (cLenS) (tCons (tVar 0) tNil)) (tC (.int 6))))) (tNot (tB (tCB (rAll K) (tCons (tLc (iStr (tVar 0)) (gName 1) tYes (tOp (oInSg) (tVar 1) (tC (.str (Str.ofString "0123456789")))) [1]) tNil)))))
    tNever
    tNext)
    (tSeq (tIfS (tAnd (tTest (tOp (rEq) (tOp (rIxS) (tVar 0) (tC (.int 0))) (tC (.str (Str.ofString "0"))))) (tTest (tOp (rNe) (tVar 0) (tC (.str (Str.ofString "0"))))))
    tNever
    tNext)
    (tRet (tCB (cIntS) (tCons (tVar 0) tNil)))))

def t_stone_of (K : PySem.W.Frag) (w : World) : TS :=
    (tSeq (tAsg (tM1 oSplit (tVar 0) (tC (.str (Str.ofString "-")))) (gName 1))
    (tSeq (tIfS (tTest (tOp (rNe) (tCB (cLen K) (tCons (tVar 1) tNil)) (tC (.int 2))))
    tNever
    tNext)
    (tRet (tTup (tCons (tCall (sp_number_of K) [] E0 (tCons (tOp (rIxL K) (tVar 1) (tC (.int 0))) tNil)) (tCons (tCall (sp_number_of K) [] E0 (tCons (tOp (rIxL K) (tVar 1) (tC (.int 1))) tNil)) tNil))))))

def t_read (K : PySem.W.Frag) (w : World) : TS :=
    (tSeq (tIfS (tTest (tOp (rEq) (tVar 0) (tC (.str (Str.ofString "")))))
    (tRet (tLst tNil))
    tNext)
    (tSeq (tAsg (tM1 oSplit (tVar 0) (tC (.str (Str.ofString " ")))) (gName 1))
    (tSeq (tIfS (tTest (tOp (rI0 fun i j => .bl (decide (j < i))) (tCB (cLen K) (tCons (tVar 1) tNil)) (tC (.int 60))))
    tNever
    tNext)
    (tRet (tLc (iList K (tVar 1)) (gName 2) tYes (tCall (sp_stone_of K) [] E0 (tCons (tVar 2) tNil)) [2])))))

def t_law_text (K : PySem.W.Frag) (w : World) : TS :=
    (tSeq (tAsg (tLc (iList K (tVar 0)) (gName 2) tYes (tOp (oCatS) (tOp (oCatS) (tCB (cStr) (tCons (tOp (rIxT K) (tVar 2) (tC (.int 0))) tNil)) (tC (.str (Str.ofString "-")))) (tCB (cStr) (tCons (tOp (rIxT K) (tVar 2) (tC (.int 1))) tNil))) [2]) (gName 1))
    (tRet (tM1 (oJoin K) (tC (.str (Str.ofString " "))) (tVar 1))))



section
variable {E : Ent} {δ δ' : List Sl} {ta tb te tc : TE} {d x y : D} {w : World} {XE : XK}
theorem evc_stone_text {s : Int × Int} (ha : Ev E ta δ (stD s)) (h : okN s.1 ∧ okN s.2) : Ev E (tCall (sp_stone_text E.K) [] XE (tCons ta tNil)) δ (.str (stS s)) := ev_call (ea_d ha ea_nil) ⟨s, rfl, h, rfl⟩
theorem evc_written {ss : List (Int × Int)} (ha : Ev E ta δ (stonesD ss)) (h : OkS ss) : Ev E (tCall (sp_written E.K) [] XE (tCons ta tNil)) δ (.str (textF ss)) := ev_call (ea_d ha ea_nil) ⟨ss, rfl, h, rfl⟩
theorem evc_law_text {ss : List (Int × Int)} (ha : Ev E ta δ (stonesD ss)) (h : OkS ss) : Ev E (tCall (sp_law_text E.K) [] XE (tCons ta tNil)) δ (.str (textF ss)) := ev_call (ea_d ha ea_nil) ⟨ss, rfl, h, rfl⟩
theorem evc_laying_text {ss : List (Int × Int)} {lay : List (List (Int × Int))} (ha : Ev E ta δ (stonesD ss)) (hb : Ev E tb δ (layD lay)) (h : OkS ss) (hl : LayOk ss lay) : Ev E (tCall (sp_laying_text E.K) [] XE (tCons ta (tCons tb tNil))) δ (.str (Txt.join barS (lay.map (rowF ss)))) := ev_call (ea_d ha (ea_d hb ea_nil)) ⟨ss, lay, rfl, h, hl, rfl⟩
theorem evc_number_of {i : Int} (ha : Ev E ta δ (.str (numS i))) (h : okN i) : Ev E (tCall (sp_number_of E.K) [] XE (tCons ta tNil)) δ (.int i) := ev_call (ea_d ha ea_nil) ⟨i, rfl, h, rfl⟩
theorem evc_stone_of {s : Int × Int} (ha : Ev E ta δ (.str (stS s))) (h : okN s.1 ∧ okN s.2) : Ev E (tCall (sp_stone_of E.K) [] XE (tCons ta tNil)) δ (stD s) := ev_call (ea_d ha ea_nil) ⟨s, rfl, h, rfl⟩
theorem evf_read {ss : List (Int × Int)} (ha : Ev E ta δ (.str (textF ss))) (h : OkS ss) : EvF E (tCall (sp_read E.K) [] XE (tCons ta tNil)) δ (ss.map stD) := evF_call (ea_d ha ea_nil) ⟨ss, rfl, h, rfl⟩
theorem ok_log {i : Int} (h : okN i) : i.natAbs.log2 < 1920 := by
  have h1 : i.natAbs < 2 ^ 20 := by
    obtain ⟨a, b⟩ := h
    show i.natAbs < 1048576
    omega
  by_cases z : i.natAbs = 0
  · rw [z]; decide
  · have := (Nat.log2_lt z).mpr h1
    omega
theorem ev_st_text {s : Int × Int} (ha : Ev E ta δ (stD s)) (h : okN s.1 ∧ okN s.2) : Ev E (tOp (oCatS) (tOp (oCatS) (tCB (cStr) (tCons (tOp (rIxT E.K) ta (tC (.int 0))) tNil)) (tC (.str (Str.ofString "-")))) (tCB (cStr) (tCons (tOp (rIxT E.K) ta (tC (.int 1))) tNil))) δ (.str (stS s)) := by
  have l1 := num_len h.1
  have l2 := num_len h.2
  have ld : dashS.length = 1 := by decide +kernel
  refine ev_catX (a := numS s.1 ++ dashS) (b := numS s.2) (ev_catX (a := numS s.1) (b := dashS) (ev_strI (ev_st0 ha) (ok_log h.1)) ev_str (by omega)) (ev_strI (ev_st1 ha) (ok_log h.2)) ?_
  rw [len_tl, tl_append, List.length_append, ← len_tl, ← len_tl]
  omega
theorem xs_stone_text (s : Int × Int) (h : okN s.1 ∧ okN s.2) : Xs E (t_stone_text E.K w) (argSl [.d (stD s)] 0) fun o => o = .rt (.str (stS s)) := xs_ret (ev_st_text (ev_var rfl) h) rfl
theorem xs_written (ss : List (Int × Int)) (hs : OkS ss) : Xs E (t_written E.K w) (argSl [.d (stonesD ss)] 1) fun o => o = .rt (.str (textF ss)) := by
  have h60 := hs.len
  refine q_drop (evc_need (ev_var rfl) (isStones_of hs)).m ?_
  have key : EvF E (tLc (iList E.K (tVar 0)) (gName 1) tYes (tCall (sp_stone_text E.K) [] E0 (tCons (tVar 1) tNil)) [1]) (argSl [.d (stonesD ss)] 1) (ss.map fun s => .str (stS s)) :=
    evF_map ss stD (fun s => .str (stS s)) (EvI.c (ei_list (ev_var rfl))) (by omega) fun s hm => ⟨_, _, by simp, tg_name, evc_stone_text (ev_var rfl) (hs.mem s hm)⟩
  have e : (ss.map fun s => PyData.str (stS s)) = (ss.map stS).map .str := by rw [List.map_map]; rfl
  rw [e] at key
  have tl := text_len hs.mem
  exact xs_ret (ev_join (a := blankS) (ys := ss.map stS) ev_str key.ev (by omega)) rfl
theorem xs_law_text (ss : List (Int × Int)) (hs : OkS ss) : Xs E (t_law_text E.K w) (argSl [.d (stonesD ss)] 2) fun o => o = .rt (.str (textF ss)) := by
  have h60 := hs.len
  have key : EvF E (tLc (iList E.K (tVar 0)) (gName 2) tYes (tOp (oCatS) (tOp (oCatS) (tCB (cStr) (tCons (tOp (rIxT E.K) (tVar 2) (tC (.int 0))) tNil)) (tC (.str (Str.ofString "-")))) (tCB (cStr) (tCons (tOp (rIxT E.K) (tVar 2) (tC (.int 1))) tNil))) [2]) (argSl [.d (stonesD ss)] 2) (ss.map fun s => .str (stS s)) :=
    evF_map ss stD (fun s => .str (stS s)) (EvI.c (ei_list (ev_var rfl))) (by omega) fun s hm => ⟨_, _, by simp, tg_name, ev_st_text (ev_var rfl) (hs.mem s hm)⟩
  have e : (ss.map fun s => PyData.str (stS s)) = (ss.map stS).map .str := by rw [List.map_map]; rfl
  rw [e] at key
  have tl := text_len hs.mem
  refine q_asg key.ev ?_
  exact xs_ret (ev_join (a := blankS) (ys := ss.map stS) ev_str (ev_var rfl) (by omega)) rfl
theorem lies_ok {ss : List (Int × Int)} (hs : OkS ss) {st : Int × Int} (h : okStep ss.length st) : okN (liesF ss st).1 ∧ okN (liesF ss st).2 := by
  have hm : stAt ss st.1 ∈ ss := by
    have := h.1
    unfold stAt
    rw [List.getD_eq_getElem?_getD, List.getElem?_eq_getElem (by omega)]
    exact List.getElem_mem _
  have := hs.mem _ hm
  unfold liesF turnF
  split
  · exact ⟨this.2, this.1⟩
  · exact this
theorem row_mem {ss : List (Int × Int)} (hs : OkS ss) {c : List (Int × Int)} (h : ChainOk ss c) : ∀ s ∈ c.map (liesF ss), okN s.1 ∧ okN s.2 := fun s hm => by
  obtain ⟨st, hst, rfl⟩ := List.mem_map.mp hm
  exact lies_ok hs (h.st st hst)
theorem rows_len {ss : List (Int × Int)} (hs : OkS ss) {lay : List (List (Int × Int))} (h : LayOk ss lay) : ((lay.map (rowF ss)).map (·.length)).sum + (lay.map (rowF ss)).length * barS.length ≤ 1000000 := by
  have hb : barS.length = 3 := by decide +kernel
  obtain ⟨l1, l2⟩ := lay_len h
  have h60 := hs.len
  have key : ∀ l : List (List (Int × Int)), (∀ c ∈ l, c ∈ lay) → ((l.map (rowF ss)).map (·.length)).sum ≤ 840 * l.length := by
    intro l
    induction l with
    | nil => intro _; exact Nat.le_refl _
    | cons c l ih =>
      intro hl
      have h1 := ih fun d hd => hl d (List.mem_cons_of_mem _ hd)
      have hc := hl c List.mem_cons_self
      have h2 := Nat.le_trans (join_len blankS ((c.map (liesF ss)).map stS)) (text_len (row_mem hs (h.ch c hc)))
      have h3 := l2 c hc
      rw [List.length_map] at h2
      simp only [List.map_cons, List.sum_cons, List.length_cons]
      have : (rowF ss c).length ≤ 14 * c.length := h2
      omega
  have := key lay fun _ z => z
  rw [hb, List.length_map]
  omega
theorem xs_laying_text (ss : List (Int × Int)) (lay : List (List (Int × Int))) (hs : OkS ss) (hl : LayOk ss lay) : Xs E (t_laying_text E.K w) (argSl [.d (stonesD ss), .d (layD lay)] 3) fun o => o = .rt (.str (Txt.join barS (lay.map (rowF ss)))) := by
  have h60 := hs.len
  obtain ⟨l1, l2⟩ := lay_len hl
  refine q_when (b := false) ((et_not (et_B (evc_is_laying (ev_var rfl) (ev_var rfl) hs (okA_layD hl h60)))).is (by rw [lay_ok hl]; rfl)) (fun z => nomatch z) fun _ => ?_
  have key : EvF E (tLc (iList E.K (tVar 1)) (gName 3) tYes (tM1 (oJoin E.K) (tC (.str (Str.ofString " "))) (tLc (iList E.K (tVar 3)) (gName 4) tYes (tCall (sp_stone_text E.K) [] E0 (tCons (tCall (sp_lying E.K) [] E0 (tCons (tOp (rIxL E.K) (tVar 0) (tOp (rIxT E.K) (tVar 4) (tC (.int 0)))) (tCons (tOp (rIxT E.K) (tVar 4) (tC (.int 1))) tNil))) tNil)) [4])) [3]) (argSl [.d (stonesD ss), .d (layD lay)] 3) (lay.map fun c => .str (rowF ss c)) := by
    refine evF_map lay stonesD (fun c => .str (rowF ss c)) (EvI.c (ei_list (xs := lay.map stonesD) (ev_var rfl))) (by omega) fun c hc => ⟨_, _, by simp, tg_name, ?_⟩
    have cok := hl.ch c hc
    have cl := l2 c hc
    have k2 : EvF E (tLc (iList E.K (tVar 3)) (gName 4) tYes (tCall (sp_stone_text E.K) [] E0 (tCons (tCall (sp_lying E.K) [] E0 (tCons (tOp (rIxL E.K) (tVar 0) (tOp (rIxT E.K) (tVar 4) (tC (.int 0)))) (tCons (tOp (rIxT E.K) (tVar 4) (tC (.int 1))) tNil))) tNil)) [4]) ((wipeS (argSl [.d (stonesD ss), .d (layD lay)] 3) [3]).set 3 (.d (stonesD c))) (c.map fun st => .str (stS (liesF ss st))) := by
      refine evF_map c stD (fun st => .str (stS (liesF ss st))) (EvI.c (ei_list (ev_var rfl))) (by omega) fun st hst => ⟨_, _, by simp, tg_name, ?_⟩
      have so := cok.st st hst
      exact evc_stone_text (evc_lying (ev_ixL (xs := ss.map stD) (ev_var rfl) (ev_st0 (s := st) (ev_var rfl)) (stD_get so.1)) (ev_st1 (s := st) (ev_var rfl))) (lies_ok hs so)
    have e : (c.map fun st => PyData.str (stS (liesF ss st))) = ((c.map (liesF ss)).map stS).map .str := by rw [List.map_map, List.map_map]; rfl
    rw [e] at k2
    have tl := text_len (row_mem hs cok)
    rw [List.length_map (f := liesF ss)] at tl
    exact ev_join (a := blankS) (ys := (c.map (liesF ss)).map stS) ev_str k2.ev (by omega)
  have e : (lay.map fun c => PyData.str (rowF ss c)) = (lay.map (rowF ss)).map .str := by rw [List.map_map]; rfl
  rw [e] at key
  refine q_asg key.ev ?_
  exact xs_ret (ev_join (a := barS) (ys := lay.map (rowF ss)) ev_str (ev_var rfl) (rows_len hs hl)) rfl
theorem figs : (Str.ofString "0123456789").cps.toList = [48, 49, 50, 51, 52, 53, 54, 55, 56, 57] := by decide +kernel
theorem nought : Str.ofString "0" = ⟨#[48]⟩ := by decide +kernel
theorem xs_number_of (i : Int) (h : okN i) : Xs E (t_number_of E.K w) (argSl [.d (.str (numS i))] 1) fun o => o = .rt (.int i) := by
  have nl := num_len h
  obtain ⟨n, hn, hb, ht⟩ := num_nat h
  have ht' : (numS i).cps.toList = numL n := ht
  have key : EvF E (tLc (iStr (tVar 0)) (gName 1) tYes (tOp oInSg (tVar 1) (tC (.str (Str.ofString "0123456789")))) [1]) (argSl [.d (.str (numS i))] 1) ((numL n).map fun _ => .bool true) := by
    refine evF_map (numL n) (fun c => .str ⟨#[c]⟩) (fun _ => .bool true) (EvI.c ?_) (by rw [len_tl, ht] at nl; omega) fun c hc => ⟨_, _, by simp, tg_name, ?_⟩
    · have := ei_str (E := E) (te := tVar 0) (z := numS i) (δ := argSl [.d (.str (numS i))] 1) (ev_var rfl)
      unfold signsD at this
      rw [ht'] at this
      exact this
    · have r := numL_digits n c hc
      refine (ev_inSg (ev_var rfl) ev_str).is ?_
      rw [figs]
      congr 1
      refine decide_eq_true ?_
      have : c = 48 ∨ c = 49 ∨ c = 50 ∨ c = 51 ∨ c = 52 ∨ c = 53 ∨ c = 54 ∨ c = 55 ∨ c = 56 ∨ c = 57 := by omega
      simpa using this
  have e : ((numL n).map fun _ => PyData.bool true) = ((numL n).map fun _ => true).map .bool := by rw [List.map_map]; rfl
  rw [e] at key
  have al : ((numL n).map fun _ => true).all id = true := by simp
  have len : ∀ δ : List Sl, δ[0]? = some (.d (.str (numS i))) → Ev E (tCB cLenS (tCons (tVar 0) tNil)) δ (.int ((numS i).length : Int)) := fun δ h => ev_lenS (ev_var h) (by omega)
  refine q_when (b := false) ((et_or (et_not (et_test (ev_chain (a := decide ((1 : Int) ≤ ((numS i).length : Int))) (b := decide (((numS i).length : Int) ≤ 6)) ev_int (len _ rfl) op_bool (fun _ => ev_int) fun _ => op_bool))) fun _ => et_not (et_B (ev_all key.ev))).is ?_) (fun z => nomatch z) fun _ => ?_
  · rw [al]
    have c1 : (1 : Int) ≤ ((numS i).length : Int) := by omega
    have c2 : ((numS i).length : Int) ≤ 6 := by omega
    simp [c1, c2]
  obtain ⟨c, r, hc⟩ : ∃ c r, numL n = c :: r := by
    cases q : numL n with
    | nil => exact absurd q (numL_ne n)
    | cons c r => exact ⟨c, r, rfl⟩
  refine q_when (b := false) ((et_and (et_test (ev_eqS (ev_ixSg (c := c) (ev_var rfl) ev_int (by omega) (by rw [ht', hc]; exact atI_0)) ev_str)) fun _ => et_test (ev_neS (ev_var rfl) ev_str)).is ?_) (fun z => nomatch z) fun _ => ?_
  · rw [nought]
    by_cases z : n = 0
    · subst z
      have e : numS i = ⟨#[48]⟩ := by
        refine ext_tl ?_
        rw [ht, numL_lt (by decide)]
      rw [e]
      simp
    · have h48 : c ≠ 48 := fun e => by
        have := numL_head n (by omega)
        rw [hc, e] at this
        exact this rfl
      have : ¬ ((⟨#[c]⟩ : Str) = ⟨#[48]⟩) := fun e => by
        injection e with e
        have := congrArg Array.toList e
        simp at this
        exact h48 this
      simp [this]
  · have hi : PySem.intText? (numS i) = some i := by
      have e : numS i = Str.ofString (toString ((n : Nat) : Int)) := by rw [hn]; rfl
      rw [e, int_num (by rw [len_tl, ht] at nl; omega), hn]
    exact xs_ret (ev_intS (ev_var rfl) hi (by omega)) rfl
theorem xs_stone_of (s : Int × Int) (h : okN s.1 ∧ okN s.2) : Xs E (t_stone_of E.K w) (argSl [.d (.str (stS s))] 1) fun o => o = .rt (stD s) := by
  have sl := st_len h.1 h.2
  have key := evF_split (E := E) (ta := tVar 0) (tb := tC (.str (Str.ofString "-"))) (a := stS s) (b := dashS) (δ := argSl [.d (.str (stS s))] 1) (ev_var rfl) ev_str (by decide +kernel) (by omega)
  rw [st_split h.1 h.2] at key
  refine q_asg key.ev ?_
  refine q_when (b := false) ((et_test (ev_neI (ev_lenL (xs := [.str (numS s.1), .str (numS s.2)]) (ev_var rfl)) ev_int)).is (by simp)) (fun z => nomatch z) fun _ => ?_
  exact xs_ret (ev_tup (ds := [.int s.1, .int s.2]) (ed_cons (evc_number_of (ev_ixL (xs := [.str (numS s.1), .str (numS s.2)]) (ev_var rfl) ev_int atI_0) h.1) (ed_cons (evc_number_of (ev_ixL (xs := [.str (numS s.1), .str (numS s.2)]) (ev_var rfl) ev_int atI_1) h.2) ed_nil)) (by show 2 ≤ 100000; decide)) rfl
theorem xs_read (ss : List (Int × Int)) (hs : OkS ss) : Xs E (t_read E.K w) (argSl [.d (.str (textF ss))] 2) fun o => o = .rl (ss.map stD) := by
  have h60 := hs.len
  by_cases hne : ss = []
  · subst hne
    refine q_when (b := true) ((et_test (ev_eqS (ev_var rfl) ev_str)).is (by rw [text_nil]; simp)) (fun _ => ?_) fun z => nomatch z
    exact xs_retF (evF_lst ed_nil (by decide)) rfl
  · have tl := Nat.le_trans (join_len blankS (ss.map stS)) (text_len hs.mem)
    have tl : (textF ss).length ≤ 14 * ss.length := tl
    refine q_when (b := false) ((et_test (ev_eqS (ev_var rfl) ev_str)).is (by simpa using text_ne hne)) (fun z => nomatch z) fun _ => ?_
    have key := evF_split (E := E) (ta := tVar 0) (tb := tC (.str (Str.ofString " "))) (a := textF ss) (b := blankS) (δ := argSl [.d (.str (textF ss))] 2) (ev_var rfl) ev_str (by decide +kernel) (by omega)
    rw [text_split hs.mem hne] at key
    refine q_asg key.ev ?_
    refine q_when (b := false) ((et_test (ev_gt (ev_lenL (xs := (ss.map stS).map .str) (ev_var rfl)) ev_int)).is (by simp; omega)) (fun z => nomatch z) fun _ => ?_
    have k2 : EvF E (tLc (iList E.K (tVar 1)) (gName 2) tYes (tCall (sp_stone_of E.K) [] E0 (tCons (tVar 2) tNil)) [2]) [.d (.str (textF ss)), .d (.list ((ss.map stS).map .str)), .no] (ss.map stD) := by
      refine evF_map ss (fun s => .str (stS s)) stD (EvI.c ?_) (by omega) fun s hm => ⟨_, _, by simp, tg_name, evc_stone_of (ev_var rfl) (hs.mem s hm)⟩
      have := ei_list (E := E) (K := E.K) (te := tVar 1) (xs := (ss.map stS).map .str) (δ := [.d (.str (textF ss)), .d (.list ((ss.map stS).map .str)), .no]) (ev_var rfl)
      rw [List.map_map] at this ⊢
      exact this
    exact xs_retF k2 rfl
end
end PL

/-! R12: the law's own steps, chains, layings, of any datum; closes; laying_text that raises; copies. -/
namespace PL
open PySem L2
def okX (x : D) : Prop := okA 4 x = true ∨ x = .dict []
def R_closes (as : List Sl) (d : D) : Prop := ∃ ss c, as = [.d (stonesD ss), .d (stonesD c)] ∧ OkS ss ∧ ChainOk ss c ∧ d = .bool (decide (lastF ss c = firstF ss c))
def sp_closes (K : PySem.W.Frag) : Sp := spR K R_closes
def R_is_laying4 (as : List Sl) (d : D) : Prop := ∃ ss x, as = [.d (stonesD ss), .d x] ∧ OkS ss ∧ okX x ∧ d = .bool (layB ss x)
def sp_is_laying4 (K : PySem.W.Frag) : Sp := spR K R_is_laying4
def R_is_fewest4 (as : List Sl) (d : D) : Prop := ∃ ss x, as = [.d (stonesD ss), .d x] ∧ OkS ss ∧ okX x ∧ d = .bool (layB ss x && decide ((lenD x : Int) = fewF ss))
def sp_is_fewest4 (K : PySem.W.Frag) : Sp := spR K R_is_fewest4
def R_laying_textX (as : List Sl) (d : D) : Prop := ∃ ss lay, as = [.d (stonesD ss), .d (layD lay)] ∧ OkS ss ∧ LayOk ss lay ∧ d = .str (Txt.join barS (lay.map (rowF ss)))
def C_laying_textX (xa : XA) (as : List Sl) (c : Value) : Prop := ∃ ss x, as = [.d (stonesD ss), .d x] ∧ OkS ss ∧ okX x ∧ layB ss x = false ∧ c = .ref (xa .NoLaying)
def sp_laying_textX (K : PySem.W.Frag) (xa : XA) : Sp := spU K R_laying_textX (C_laying_textX xa)
def R_law_chain (as : List Sl) (d : D) : Prop := ∃ ss x, as = [.d (stonesD ss), .d x] ∧ okA 3 x = true ∧ d = .bool (chainB ss x)
def sp_law_chain (K : PySem.W.Frag) : Sp := spR K R_law_chain
def R_law_is_laying (as : List Sl) (d : D) : Prop := ∃ ss x, as = [.d (stonesD ss), .d x] ∧ OkS ss ∧ okX x ∧ d = .bool (layB ss x)
def sp_law_is_laying (K : PySem.W.Frag) : Sp := spR K R_law_is_laying
def R_copy (n : Nat) (as : List Sl) (d : D) : Prop := ∃ x, as = [.d x] ∧ (okA n x = true ∨ x = .dict []) ∧ d = x
def spC (K : PySem.W.Frag) : Nat → Sp
  | 0 => fun _ _ _ _ => False
  | n + 1 => spR K (R_copy n)
def R_written04 (as : List Sl) (d : D) : Prop := ∃ ss x, as = [.d (stonesD ss), .d x] ∧ OkS ss ∧ okX x ∧ d = .bool (layB ss x)
def sp_written04 (K : PySem.W.Frag) : Sp := spR K R_written04
def t_closes (K : PySem.W.Frag) (w : World) : TS :=
    (tSeq (tDrop (tCall (sp_need_stones K) [] E0 (tCons (tVar 0) tNil)))
    (tRet (tCall (sp_meets K) [] E0 (tCons (tVar 0) (tCons (tOp (rIxL K) (tVar 1) (tUn (rU fun i => .int (-i)) (tC (.int 1)))) (tCons (tOp (rIxL K) (tVar 1) (tC (.int 0))) tNil))))))

def t_laying_textX (K : PySem.W.Frag) (w : World) (E : XK) (xa : XA) : TS :=
    (tSeq (tIfS (tNot (tB (tCall (sp_is_laying4 K) [] E0 (tCons (tVar 0) (tCons (tVar 1) tNil)))))
    (tRaise E (.ref (xa .NoLaying)))
    tNext)
    (tSeq (tAsg (tLc (iList K (tVar 1)) (gName 3) tYes (tM1 (oJoin K) (tC (.str (Str.ofString " "))) (tLc (iList K (tVar 3)) (gName 4) tYes (tCall (sp_stone_text K) [] E0 (tCons (tCall (sp_lying K) [] E0 (tCons (tOp (rIxL K) (tVar 0) (tOp (rIxT K) (tVar 4) (tC (.int 0)))) (tCons (tOp (rIxT K) (tVar 4) (tC (.int 1))) tNil))) tNil)) [4])) [3]) (gName 2))
    (tRet (tM1 (oJoin K) (tC (.str (Str.ofString " | "))) (tVar 2)))))

def t_law_chain (K : PySem.W.Frag) (w : World) : TS :=
    (tSeq (tIfS (tOr (tNot (tB (tCB (rIsi K) (tCons (tVar 1) (tCons (tC (.ty "list")) tNil))))) (tTest (tOp (rEqD K) (tVar 1) (tLst tNil))))
    (tRet (tC (.bl false)))
    tNext)
    (tSeq (tFor (iList K (tVar 1)) (gName 2)
    (tSeq (tIfS (tOr (tNot (tB (tCB (rIsi K) (tCons (tVar 2) (tCons (tC (.ty "tuple")) tNil))))) (tTest (tOp (rNe) (tCB (cLen K) (tCons (tVar 2) tNil)) (tC (.int 2)))))
    (tRet (tC (.bl false)))
    tNext)
    (tSeq (tIfS (tTest (tOp (rNeD K) (tLc (iTup K (tVar 2)) (gName 5) (tNot (tB (tCB (rIsi K) (tCons (tVar 5) (tCons (tC (.ty "int")) tNil))))) (tVar 5) [5]) (tLst tNil)))
    (tRet (tC (.bl false)))
    tNext)
    (tSeq (tIfS (tOr (tB (tCB (rIsi K) (tCons (tOp (rIxT K) (tVar 2) (tC (.int 0))) (tCons (tC (.ty "bool")) tNil)))) (tB (tCB (rIsi K) (tCons (tOp (rIxT K) (tVar 2) (tC (.int 1))) (tCons (tC (.ty "bool")) tNil)))))
    (tRet (tC (.bl false)))
    tNext)
    (tSeq (tIfS (tNot (tTest (tChain (rI0 fun i j => .bl (decide (i ≤ j))) (rI0 fun i j => .bl (decide (i < j))) (tC (.int 0)) (tOp (rIxT K) (tVar 2) (tC (.int 0))) (tCB (cLen K) (tCons (tVar 0) tNil)))))
    (tRet (tC (.bl false)))
    tNext)
    (tIfS (tTest (tOp (rIn K true) (tOp (rIxT K) (tVar 2) (tC (.int 1))) (tLst (tCons (tC (.int 0)) (tCons (tC (.int 1)) tNil)))))
    (tRet (tC (.bl false)))
    tNext))))))
    (tSeq (tAsg (tLc (iList K (tVar 1)) (gName 2) tYes (tCall (sp_law_lies K) [] E0 (tCons (tVar 0) (tCons (tVar 2) tNil))) [2]) (gName 3))
    (tSeq (tFor (iRng2 (tCons (tC (.int 1)) (tCons (tCB (cLen K) (tCons (tVar 3) tNil)) tNil))) (gName 4)
    (tIfS (tTest (tOp (rNe) (tOp (rIxT K) (tOp (rIxL K) (tVar 3) (tOp (rI0 fun i j => .int (i - j)) (tVar 4) (tC (.int 1)))) (tC (.int 1))) (tOp (rIxT K) (tOp (rIxL K) (tVar 3) (tVar 4)) (tC (.int 0)))))
    (tRet (tC (.bl false)))
    tNext))
    (tRet (tC (.bl true)))))))

def t_law_is_laying (K : PySem.W.Frag) (w : World) : TS :=
    (tSeq (tIfS (tNot (tB (tCB (rIsi K) (tCons (tVar 1) (tCons (tC (.ty "list")) tNil)))))
    (tRet (tC (.bl false)))
    tNext)
    (tSeq (tIfS (tTest (tOp (rNeD K) (tLc (iList K (tVar 1)) (gName 3) (tNot (tB (tCall (sp_law_chain K) [] E0 (tCons (tVar 0) (tCons (tVar 3) tNil))))) (tVar 3) [3]) (tLst tNil)))
    (tRet (tC (.bl false)))
    tNext)
    (tSeq (tAsg (tLst tNil) (gName 2))
    (tSeq (tFor (iList K (tVar 1)) (gName 3)
    (tAsg (tOp (rCat) (tVar 2) (tLc (iList K (tVar 3)) (gName 4) tYes (tOp (rIxT K) (tVar 4) (tC (.int 0))) [4])) (gName 2)))
    (tRet (tOp (rEqD K) (tCB (rSortedI K) (tCons (tVar 2) tNil)) (tLstRg (tRg1 (tCB (cLen K) (tCons (tVar 0) tNil))))))))))

def t_law_copy (K : PySem.W.Frag) (w : World) (rec : Sp) : TS :=
    (tSeq (tIfS (tB (tCB (rIsi K) (tCons (tVar 0) (tCons (tC (.ty "list")) tNil))))
    (tRet (tLc (iList K (tVar 0)) (gName 1) tYes (tCall rec [] E0 (tCons (tVar 1) tNil)) [1]))
    tNext)
    (tRet (tVar 0)))

def t_written04 (K : PySem.W.Frag) (w : World) (xa : XA) : TS :=
    (tSeq (tAsg (tC .non) (gName 2))
    (tSeq (tAsg (tC .non) (gName 3))
    (tSeq (tTryK K (.ref (xa .StoneError)) 4 (fun W => (tAsg (tCallS (sp_laying_textX K xa) (WE W) (tCons (tVar 0) (tCons (tVar 1) tNil))) (gName 2))) (fun _ _ _ => tAsg (tVar 4) (gName 3)))
    (tSeq (tIfS (tTest (tOp (oIsN) (tVar 3) (tC .non)))
    (tRet (tCB (rIsi K) (tCons (tVar 2) (tCons (tC (.ty "str")) tNil))))
    tNext)
    (tRet (tOp (rIxL K) (tLst (tCons (tC .non) (tCons (tC (.bl false)) tNil))) (tCB (cInt) (tCons (tCB (rIsAny K) (tCons (tVar 3) (tCons (tC (.ref (xa .NoLaying))) tNil))) tNil))))))))

def t_is_fewest4 (K : PySem.W.Frag) (w : World) : TS :=
    (tRet (tAndV (tCall (sp_is_laying4 K) [] E0 (tCons (tVar 0) (tCons (tVar 1) tNil))) (tOp (rEq) (tCB (cLen K) (tCons (tVar 1) tNil)) (tCall (sp_fewest K) [] E0 (tCons (tVar 0) tNil)))))


theorem lay_of {ss : List (Int × Int)} {x : D} (h : layB ss x = true) : ∃ lay, x = layD lay ∧ LayOk ss lay := by
  cases x
  case list cs =>
    have h' : (cs.all (chainB ss) && decide (isort (placesOf cs) = upTo ss.length)) = true := h
    rw [Bool.and_eq_true, decide_eq_true_eq] at h'
    obtain ⟨h1, h2⟩ := h'
    have one : ∀ c ∈ cs, c = stonesD ((stepsOf c).map stepOf) ∧ ChainOk ss ((stepsOf c).map stepOf) := fun c hc => by
      have hcB := List.all_eq_true.mp h1 c hc
      obtain ⟨ds, rfl, hne, hall⟩ := chain_list hcB
      have st : ∀ s ∈ ds, s = stD (stepOf s) ∧ okStep ss.length (stepOf s) := fun s hs => step_st (List.all_eq_true.mp hall s hs)
      have e : ds = (ds.map stepOf).map stD := by
        rw [List.map_map]
        have : ds.map (stD ∘ stepOf) = ds.map id := List.map_congr_left fun s hs => (st s hs).1.symm
        rw [this, List.map_id]
      refine ⟨congrArg PyData.list e, ⟨fun z => hne (List.map_eq_nil_iff.mp z), fun s hs => ?_, fun i a b ha hb => ?_⟩⟩
      · obtain ⟨t, ht, rfl⟩ := List.mem_map.mp hs
        exact (st t ht).2
      · have h3 : (decide (ds ≠ []) && ds.all (stepB ss.length) && (List.range (ds.length - 1)).all fun k => meetB ss (ds.getD k .none) (ds.getD (k + 1) .none)) = true := hcB
        rw [Bool.and_eq_true] at h3
        have ha' : (ds.map stepOf)[i]? = some a := ha
        have hb' : (ds.map stepOf)[i + 1]? = some b := hb
        rw [List.getElem?_map, Option.map_eq_some_iff] at ha' hb'
        obtain ⟨a', ha1, rfl⟩ := ha'
        obtain ⟨b', hb1, rfl⟩ := hb'
        have lt := (List.getElem?_eq_some_iff.mp hb1).1
        have := List.all_eq_true.mp h3.2 i (List.mem_range.mpr (by omega))
        rw [List.getD_eq_getElem?_getD, List.getD_eq_getElem?_getD, ha1, hb1] at this
        exact of_decide_eq_true this
    have e : cs = (cs.map fun c => (stepsOf c).map stepOf).map stonesD := by
      rw [List.map_map]
      have : cs.map (stonesD ∘ fun c => (stepsOf c).map stepOf) = cs.map id := List.map_congr_left fun c hc => (one c hc).1.symm
      rw [this, List.map_id]
    refine ⟨cs.map fun c => (stepsOf c).map stepOf, congrArg PyData.list e, ⟨fun c hc => ?_, ?_⟩⟩
    · obtain ⟨c', hc', rfl⟩ := List.mem_map.mp hc
      exact (one c' hc').2
    · rw [← places_lay, ← e, ← h2]
      exact (isort_perm _).symm
  all_goals cases h
section
variable {E : Ent} {δ δ' : List Sl} {ta tb te tc : TE} {d x y : D} {w : World} {XE : XK} {mg : Str → Option Value} {xa : XA}
theorem evc_closes {ss c : List (Int × Int)} (ha : Ev E ta δ (stonesD ss)) (hb : Ev E tb δ (stonesD c)) (h : OkS ss) (hc : ChainOk ss c) : Ev E (tCall (sp_closes E.K) [] XE (tCons ta (tCons tb tNil))) δ (.bool (decide (lastF ss c = firstF ss c))) := ev_call (ea_d ha (ea_d hb ea_nil)) ⟨ss, c, rfl, h, hc, rfl⟩
theorem evc_is_laying4 {ss : List (Int × Int)} (ha : Ev E ta δ (stonesD ss)) (hb : Ev E tb δ x) (h : OkS ss) (hx : okX x) : Ev E (tCall (sp_is_laying4 E.K) [] XE (tCons ta (tCons tb tNil))) δ (.bool (layB ss x)) := ev_call (ea_d ha (ea_d hb ea_nil)) ⟨ss, x, rfl, h, hx, rfl⟩
theorem evc_is_fewest4 {ss : List (Int × Int)} (ha : Ev E ta δ (stonesD ss)) (hb : Ev E tb δ x) (h : OkS ss) (hx : okX x) : Ev E (tCall (sp_is_fewest4 E.K) [] XE (tCons ta (tCons tb tNil))) δ (.bool (layB ss x && decide ((lenD x : Int) = fewF ss))) := ev_call (ea_d ha (ea_d hb ea_nil)) ⟨ss, x, rfl, h, hx, rfl⟩
theorem evc_law_is_laying {ss : List (Int × Int)} (ha : Ev E ta δ (stonesD ss)) (hb : Ev E tb δ x) (h : OkS ss) (hx : okX x) : Ev E (tCall (sp_law_is_laying E.K) [] XE (tCons ta (tCons tb tNil))) δ (.bool (layB ss x)) := ev_call (ea_d ha (ea_d hb ea_nil)) ⟨ss, x, rfl, h, hx, rfl⟩
theorem evc_law_chain {ss : List (Int × Int)} (ha : Ev E ta δ (stonesD ss)) (hb : Ev E tb δ x) (hx : okA 3 x = true) : Ev E (tCall (sp_law_chain E.K) [] XE (tCons ta (tCons tb tNil))) δ (.bool (chainB ss x)) := ev_call (ea_d ha (ea_d hb ea_nil)) ⟨ss, x, rfl, hx, rfl⟩
theorem evc_copy {n : Nat} (ha : Ev E ta δ x) (hx : okA n x = true ∨ x = .dict []) : Ev E (tCall (spC E.K (n + 1)) [] XE (tCons ta tNil)) δ x := ev_call (R := R_copy n) (ea_d ha ea_nil) ⟨x, rfl, hx, rfl⟩
theorem evc_written04 {ss : List (Int × Int)} (ha : Ev E ta δ (stonesD ss)) (hb : Ev E tb δ x) (h : OkS ss) (hx : okX x) : Ev E (tCall (sp_written04 E.K) [] XE (tCons ta (tCons tb tNil))) δ (.bool (layB ss x)) := ev_call (ea_d ha (ea_d hb ea_nil)) ⟨ss, x, rfl, h, hx, rfl⟩
theorem head_at {c : List (Int × Int)} (h : c ≠ []) : atI (c.map stD) 0 = some (stD (c.headD (0, 0))) := by
  cases c with
  | nil => exact absurd rfl h
  | cons a c => exact atI_0
theorem xs_closes (ss c : List (Int × Int)) (hs : OkS ss) (hc : ChainOk ss c) : Xs E (t_closes E.K w) (argSl [.d (stonesD ss), .d (stonesD c)] 0) fun o => o = .rt (.bool (decide (lastF ss c = firstF ss c))) := by
  refine q_drop (evc_need (ev_var rfl) (isStones_of hs)).m ?_
  exact xs_ret (evc_meets (a := c.getLastD (0, 0)) (b := c.headD (0, 0)) (ev_var rfl) (ev_ixL (xs := c.map stD) (ev_var rfl) (ev_neg ev_int) (last_at hc.ne)) (ev_ixL (xs := c.map stD) (ev_var rfl) ev_int (head_at hc.ne)) (hc.st _ (last_mem hc.ne)) (hc.st _ (head_mem hc.ne))) rfl
theorem xs_is_laying4 (ss : List (Int × Int)) (x : D) (hs : OkS ss) (hx : okX x) : Xs E (t_is_laying E.K w) (argSl [.d (stonesD ss), .d x] 3) fun o => o = .rt (.bool (layB ss x)) := by
  rcases hx with hx | rfl
  · exact xs_is_laying ss x hs hx
  · refine q_drop (evc_need (ev_var rfl) (isStones_of hs)).m ?_
    exact q_when (b := true) ((et_or (a := true) (b := true) ((et_not (et_B (ev_isi_list (ev_var (d := .dict []) rfl)))).is rfl) fun z => nomatch z).is (by simp)) (fun _ => xs_ret ev_bl rfl) fun z => nomatch z
theorem xs_is_fewest4 (ss : List (Int × Int)) (x : D) (hs : OkS ss) (hx : okX x) : Xs E (t_is_fewest4 E.K w) (argSl [.d (stonesD ss), .d x] 0) fun o => o = .rt (.bool (layB ss x && decide ((lenD x : Int) = fewF ss))) := by
  refine xs_ret (ev_andV (evc_is_laying4 (ev_var rfl) (ev_var rfl) hs hx) fun e => ?_) rfl
  cases x with
  | list cs => exact ev_eqI (ev_lenL (ev_var rfl)) (ev_fewest (ev_var rfl) hs)
  | _ => cases e
theorem xs_laying_textX_ok {W : XK} (ss : List (Int × Int)) (lay : List (List (Int × Int))) (hs : OkS ss) (hl : LayOk ss lay) : Xs E (t_laying_textX E.K w W xa) (argSl [.d (stonesD ss), .d (layD lay)] 3) fun o => o = .rt (.str (Txt.join barS (lay.map (rowF ss)))) := by
  have h60 := hs.len
  obtain ⟨l1, l2⟩ := lay_len hl
  refine q_when (b := false) ((et_not (et_B (evc_is_laying4 (ev_var rfl) (ev_var rfl) hs (.inl (okA_layD hl h60))))).is (by rw [lay_ok hl]; rfl)) (fun z => nomatch z) fun _ => ?_
  have key : EvF E (tLc (iList E.K (tVar 1)) (gName 3) tYes (tM1 (oJoin E.K) (tC (.str (Str.ofString " "))) (tLc (iList E.K (tVar 3)) (gName 4) tYes (tCall (sp_stone_text E.K) [] E0 (tCons (tCall (sp_lying E.K) [] E0 (tCons (tOp (rIxL E.K) (tVar 0) (tOp (rIxT E.K) (tVar 4) (tC (.int 0)))) (tCons (tOp (rIxT E.K) (tVar 4) (tC (.int 1))) tNil))) tNil)) [4])) [3]) (argSl [.d (stonesD ss), .d (layD lay)] 3) (lay.map fun c => .str (rowF ss c)) := by
    refine evF_map lay stonesD (fun c => .str (rowF ss c)) (EvI.c (ei_list (xs := lay.map stonesD) (ev_var rfl))) (by omega) fun c hc => ⟨_, _, by simp, tg_name, ?_⟩
    have cok := hl.ch c hc
    have cl := l2 c hc
    have k2 : EvF E (tLc (iList E.K (tVar 3)) (gName 4) tYes (tCall (sp_stone_text E.K) [] E0 (tCons (tCall (sp_lying E.K) [] E0 (tCons (tOp (rIxL E.K) (tVar 0) (tOp (rIxT E.K) (tVar 4) (tC (.int 0)))) (tCons (tOp (rIxT E.K) (tVar 4) (tC (.int 1))) tNil))) tNil)) [4]) ((wipeS (argSl [.d (stonesD ss), .d (layD lay)] 3) [3]).set 3 (.d (stonesD c))) (c.map fun st => .str (stS (liesF ss st))) := by
      refine evF_map c stD (fun st => .str (stS (liesF ss st))) (EvI.c (ei_list (ev_var rfl))) (by omega) fun st hst => ⟨_, _, by simp, tg_name, ?_⟩
      have so := cok.st st hst
      exact evc_stone_text (evc_lying (ev_ixL (xs := ss.map stD) (ev_var rfl) (ev_st0 (s := st) (ev_var rfl)) (stD_get so.1)) (ev_st1 (s := st) (ev_var rfl))) (lies_ok hs so)
    have e : (c.map fun st => PyData.str (stS (liesF ss st))) = ((c.map (liesF ss)).map stS).map .str := by rw [List.map_map, List.map_map]; rfl
    rw [e] at k2
    have tl := text_len (row_mem hs cok)
    rw [List.length_map (f := liesF ss)] at tl
    exact ev_join (a := blankS) (ys := (c.map (liesF ss)).map stS) ev_str k2.ev (by omega)
  have e : (lay.map fun c => PyData.str (rowF ss c)) = (lay.map (rowF ss)).map .str := by rw [List.map_map]; rfl
  rw [e] at key
  refine q_asg key.ev ?_
  exact xs_ret (ev_join (a := barS) (ys := lay.map (rowF ss)) ev_str (ev_var rfl) (rows_len hs hl)) rfl
theorem xs_laying_textX_no {W : XK} {c : Value} (ss : List (Int × Int)) (x : D) (hs : OkS ss) (hx : okX x) (hl : layB ss x = false) (hc : c = .ref (xa .NoLaying)) (hW : Wm E W c) : Xs E (t_laying_textX E.K w W xa) (argSl [.d (stonesD ss), .d x] 3) fun _ => False := by
  subst hc
  exact q_when (b := true) ((et_not (et_B (evc_is_laying4 (ev_var rfl) (ev_var rfl) hs hx))).is (by rw [hl]; rfl)) (fun _ => xs_raise hW) fun z => nomatch z
theorem okA_filter {n : Nat} {ds : List D} (p : D → Bool) (h : okA (n + 1) (.list ds) = true) : okA (n + 1) (.list (ds.filter p)) = true := by
  obtain ⟨h1, h2⟩ := okA_list h
  have h3 := List.length_filter_le p ds
  show (decide ((ds.filter p).length ≤ 1000) && (ds.filter p).all (okA n)) = true
  rw [decide_eq_true (by omega), Bool.true_and]
  exact List.all_eq_true.mpr fun x hx => h2 x (List.mem_filter.mp hx).1
theorem ev_isNX {n : Nat} {c : Value} (h0 : δ[n]? = some (exS c)) : Ev E (tOp oIsN (tVar n) (tC .non)) δ (.bool false) := fun σ G H Q s k => by
  obtain ⟨o, ho⟩ := s.here h0
  obtain ⟨F, q⟩ := s.rg
  obtain ⟨v, e, hs⟩ := q.sl n _ o h0 ho
  subst e
  obtain ⟨a, oo, e, h1, h2⟩ := hs G (Same.refl G)
  subst e
  exact ⟨.ref a, ho, rfl, k _ G H (Gr.refl s.i) (by simp [Rp])⟩
theorem xs_written04 (T : XT E.K mg xa) (ss : List (Int × Int)) (x : D) (hs : OkS ss) (hx : okX x) : Xs E (t_written04 E.K w xa) (argSl [.d (stonesD ss), .d x] 3) fun o => o = .rt (.bool (layB ss x)) := by
  refine q_asg (d := .none) ev_non ?_
  refine q_asg (d := .none) ev_non ?_
  have a1 : Ea E (tCons (tVar 0) (tCons (tVar 1) tNil)) [.d (stonesD ss), .d x, .d .none, .d .none, .no] [.d (stonesD ss), .d x] := ea_d (ev_var rfl) (ea_d (ev_var rfl) ea_nil)
  cases hb : layB ss x with
  | true =>
    obtain ⟨lay, rfl, hl⟩ := lay_of hb
    refine xs_seq (xs_tryAsg (R := R_laying_textX) (C := C_laying_textX xa) (m := 2) a1 ⟨ss, lay, rfl, hs, hl, rfl⟩ ?_)
    refine q_when (b := true) (et_test ((ev_isN (d := .none) (ev_var rfl)).is rfl)) (fun _ => ?_) fun z => nomatch z
    exact xs_ret (ev_isi_str (ev_var rfl)) rfl
  | false =>
    refine xs_seq (xs_tryX (R := R_laying_textX) (C := C_laying_textX xa) (cls := .ref (xa .NoLaying)) (n := 3) (fun W => .inr (.inl ⟨2, rfl⟩)) a1 ⟨ss, x, rfl, hs, hx, hb, rfl⟩ ((T.exm .NoLaying .StoneError).trans rfl) (by show 4 < 5; decide) ?_)
    refine q_when (b := false) (et_test (ev_isNX (c := .ref (xa .NoLaying)) rfl)) (fun z => nomatch z) fun _ => ?_
    exact xs_ret (ev_ixL (xs := [.none, .bool false]) (ev_lst (ed_cons ev_non (ed_cons ev_bl ed_nil)) (by show 2 ≤ 100000; decide)) (ev_intB (b := true) (ev_isX (D := xa .NoLaying) rfl (T.ec .NoLaying rfl) (.own _) ((T.one .NoLaying .NoLaying).trans rfl))) atI_1) rfl
theorem xs_law_copy (n : Nat) (x : D) (hx : okA n x = true ∨ x = .dict []) : Xs E (t_law_copy E.K w (spC E.K n)) (argSl [.d x] 1) fun o => o = .rt x := by
  by_cases h1 : isListD x = true
  · obtain ⟨ds, rfl⟩ : ∃ ds, x = .list ds := by cases x <;> first | exact ⟨_, rfl⟩ | cases h1
    rcases hx with hx | hx
    · cases n with
      | zero => cases hx
      | succ m =>
        obtain ⟨hl, hds⟩ := okA_list hx
        have key : EvF E (tLc (iList E.K (tVar 0)) (gName 1) tYes (tCall (spC E.K (m + 1)) [] E0 (tCons (tVar 1) tNil)) [1]) (argSl [.d (.list ds)] 1) (ds.map id) :=
          evF_map ds id id (EvI.c (by rw [List.map_id]; exact ei_list (ev_var rfl))) (by omega) fun a ha => ⟨_, _, by simp, tg_name, evc_copy (ev_var rfl) (.inl (hds a ha))⟩
        rw [List.map_id] at key
        exact q_when (b := true) (et_B ((ev_isi_list (ev_var rfl)).is rfl)) (fun _ => xs_ret key.ev rfl) fun z => nomatch z
    · cases hx
  · have h1' : isListD x = false := by simpa using h1
    exact q_when (b := false) (et_B ((ev_isi_list (ev_var rfl)).is (by rw [h1']))) (fun z => nomatch z) fun _ => xs_ret (ev_var rfl) rfl

theorem eqv_nilN {ds : List D} : (!PyData.eqv (.list ds) (.list [])) = decide (ds ≠ []) := by
  rw [eqv_nil]
  by_cases h : ds = [] <;> simp [h]
theorem intD_of : ∀ {x : D}, isIntD x = true → isBoolD x = false → ∃ i, x = .int i
  | .int i, _, _ => ⟨i, rfl⟩
  | .bool _, _, h => nomatch h
  | .none, h, _ => nomatch h
  | .str _, h, _ => nomatch h
  | .list _, h, _ => nomatch h
  | .tuple _, h, _ => nomatch h
  | .dict _, h, _ => nomatch h
theorem lies_st {ss : List (Int × Int)} {a : D} (h : a = stD (stepOf a) ∧ okStep ss.length (stepOf a)) (hδ : Ev E tb δ a) (ha : Ev E ta δ (stonesD ss)) : Ev E (tCall (sp_law_lies E.K) [] XE (tCons ta (tCons tb tNil))) δ (stD (liesF ss (stepOf a))) := evc_law_lies (st := stepOf a) ha (h.1 ▸ hδ) h.2
theorem xs_law_chain (ss : List (Int × Int)) (x : D) (hx : okA 3 x = true) : Xs E (t_law_chain E.K w) (argSl [.d (stonesD ss), .d x] 4) fun o => o = .rt (.bool (chainB ss x)) := by
  by_cases h1 : isListD x = true
  · obtain ⟨ds, rfl⟩ : ∃ ds, x = .list ds := by cases x <;> first | exact ⟨_, rfl⟩ | cases h1
    obtain ⟨hl, hds⟩ := okA_list hx
    have no : chainB ss (.list ds) = false → Out.rt (.bool false) = Out.rt (.bool (chainB ss (.list ds))) := fun h => by rw [h]
    have ne : Ev E (tOp (rEqD E.K) (tVar 1) (tLst tNil)) (argSl [.d (stonesD ss), .d (.list ds)] 4) (.bool (decide (ds = []))) := (ev_eqD (ev_var rfl) (ev_lst ed_nil (by decide)) (okA_shp hx (by decide)) shp_nil).is (by rw [eqv_nil])
    refine q_when (b := decide (ds = [])) ((et_or (a := false) (b := decide (ds = [])) ((et_not (et_B (ev_isi_list (ev_var (d := .list ds) rfl)))).is rfl) fun _ => et_test ne).is (by simp)) (fun e => ?_) fun e => ?_
    · have e : ds = [] := by simpa using e
      exact xs_ret ev_bl (no (by subst e; rfl))
    · have hne : ds ≠ [] := by simpa using e
      refine xs_seq (xs_for (ei_list (xs := ds) (ev_var rfl)) (fun i δ => ∃ s2 s3 s4 s5, δ = [.d (stonesD ss), .d (.list ds), s2, s3, s4, s5] ∧ ∀ y ∈ ds.take i, stepB ss.length y = true) ⟨_, _, _, _, rfl, fun _ h => absurd h (by simp)⟩ ?_ ?_)
      · rintro i y δ' hi ⟨s2, s3, s4, s5, rfl, hall⟩
        have hy : y ∈ ds := List.mem_of_getElem? hi
        have oky := hds y hy
        have bad : stepB ss.length y = false → chainB ss (.list ds) = false := fun h => by
          show (decide (ds ≠ []) && ds.all (stepB ss.length) && _) = false
          have : ds.all (stepB ss.length) = false := by
            cases q : ds.all (stepB ss.length) with
            | false => rfl
            | true => rw [List.all_eq_true.mp q y hy] at h; cases h
          rw [this]; simp
        have good : stepB ss.length y = true → ∀ z ∈ ds.take (i + 1), stepB ss.length z = true := fun h z hz => by
          rw [List.take_succ, hi] at hz
          rcases List.mem_append.mp hz with c | c
          · exact hall z c
          · have c : z = y := by simpa using c
            rw [c]; exact h
        refine ⟨_, _, tg_name, ?_⟩
        have tL : Et E (tNot (tB (tCB (rIsi E.K) (tCons (tVar 2) (tCons (tC (.ty "tuple")) tNil))))) [.d (stonesD ss), .d (.list ds), .d y, s3, s4, s5] (!isTupD y) := et_not (et_B (ev_isi_tuple (ev_var rfl)))
        by_cases ht : isTupD y = true
        · obtain ⟨es, rfl⟩ : ∃ es, y = .tuple es := by cases y <;> first | exact ⟨_, rfl⟩ | cases ht
          refine q_when (b := !decide ((es.length : Int) = 2)) ((et_or (a := false) (tL.is rfl) fun _ => et_test (ev_neI (ev_lenT (ev_var rfl)) ev_int)).is (by simp)) (fun e => ?_) fun e => ?_
          · have e : ¬ (es.length : Int) = 2 := by simpa using e
            refine xs_ret ev_bl (no (bad ?_))
            match es, e with
            | [], _ => rfl
            | [_], _ => simp [stepB]
            | [_, _], h2 => exact absurd rfl h2
            | _ :: _ :: _ :: _, _ => simp [stepB]
          · have e : (es.length : Int) = 2 := by simpa using e
            obtain ⟨a, b, rfl⟩ : ∃ a b, es = [a, b] := by
              match es, e with
              | [a, b], _ => exact ⟨a, b, rfl⟩
              | [], h => simp at h
              | [_], h => simp at h
              | _ :: _ :: _ :: _, h => simp at h; omega
            have okab : ∀ z ∈ [a, b], okA 1 z = true := by
              have h' : (decide (([a, b] : List D).length ≤ 1000) && ([a, b] : List D).all (okA 1)) = true := oky
              rw [Bool.and_eq_true] at h'
              exact fun z hz => List.all_eq_true.mp h'.2 z hz
            have key : EvF E (tLc (iTup E.K (tVar 2)) (gName 5) (tNot (tB (tCB (rIsi E.K) (tCons (tVar 5) (tCons (tC (.ty "int")) tNil))))) (tVar 5) [5]) [.d (stonesD ss), .d (.list ds), .d (.tuple [a, b]), s3, s4, s5] ((([a, b] : List D).filter fun z => !isIntD z).map id) :=
              evF_lc [a, b] id (fun z => !isIntD z) id (EvI.c (by rw [List.map_id]; exact ei_tup (ev_var rfl))) (by show 2 ≤ 100000; decide) fun z _ => ⟨_, _, by simp, tg_name, et_not (et_B (ev_isi_int (ev_var rfl))), fun _ => ev_var rfl⟩
            rw [List.map_id] at key
            have okl : okA 2 (.list ([a, b] : List D)) = true := by
              show (decide (([a, b] : List D).length ≤ 1000) && ([a, b] : List D).all (okA 1)) = true
              rw [Bool.and_eq_true]
              exact ⟨rfl, List.all_eq_true.mpr okab⟩
            refine q_when (b := decide ((([a, b] : List D).filter fun z => !isIntD z) ≠ [])) (et_test ((ev_neD key.ev (ev_lst ed_nil (by decide)) (okA_shp (okA_filter (n := 1) _ okl) (by decide)) shp_nil).is (by rw [eqv_nilN]))) (fun e => ?_) fun e => ?_
            · refine xs_ret ev_bl (no (bad ?_))
              have e := of_decide_eq_true e
              cases a <;> cases b <;> first | rfl | exact absurd (by simp [isIntD]) e
            · have e : (([a, b] : List D).filter fun z => !isIntD z) = [] := by simpa using e
              have ia : isIntD a = true := by
                have := List.filter_eq_nil_iff.mp e a (by simp)
                simpa using this
              have ib : isIntD b = true := by
                have := List.filter_eq_nil_iff.mp e b (by simp)
                simpa using this
              refine q_when (b := isBoolD a || isBoolD b) (et_or (et_B (ev_isi_bool (ev_ixT0 (ev_var rfl)))) fun _ => et_B (ev_isi_bool (ev_ixT1 (ev_var rfl)))) (fun e => ?_) fun e => ?_
              · refine xs_ret ev_bl (no (bad ?_))
                cases a <;> cases b <;> first | rfl | cases e | cases ia | cases ib
              · obtain ⟨eb1, eb2⟩ := Bool.or_eq_false_iff.mp e
                obtain ⟨p, rfl⟩ := intD_of ia eb1
                obtain ⟨t, rfl⟩ := intD_of ib eb2
                refine q_when (b := !(decide (0 ≤ p) && decide (p < (ss.length : Int)))) (et_not (et_test (ev_chain (a := decide ((0 : Int) ≤ p)) (b := decide (p < (ss.length : Int))) ev_int (ev_ixT0 (ev_var rfl)) op_bool (fun _ => ev_lenSt (ev_var rfl)) fun _ => op_bool))) (fun e => ?_) fun e => ?_
                · refine xs_ret ev_bl (no (bad ?_))
                  show decide (okStep ss.length (p, t)) = false
                  rw [decide_eq_false_iff_not]
                  intro z
                  obtain ⟨z1, z2⟩ := z.1
                  simp only [decide_eq_true z1, decide_eq_true z2] at e
                  cases e
                · have e : 0 ≤ p ∧ p < (ss.length : Int) := by simpa using e
                  refine xs_if (b := !decide (t ∈ ([0, 1] : List Int))) (et_test (ev_notInL (ns := [0, 1]) (ev_ixT1 (ev_var rfl)) (ev_lst (ed_cons ev_int (ed_cons ev_int ed_nil)) (by show 2 ≤ 100000; decide)))) (fun e2 => ?_) fun e2 => ?_
                  · refine xs_ret ev_bl (no (bad ?_))
                    show decide (okStep ss.length (p, t)) = false
                    rw [decide_eq_false_iff_not]
                    intro z
                    have z2 : t = 0 ∨ t = 1 := z.2
                    have e2 : ¬ (t = 0 ∨ t = 1) := by simpa using e2
                    exact e2 z2
                  · have e3 : ¬ t = 0 → t = 1 := by simpa using e2
                    have e2 : t = 0 ∨ t = 1 := by
                      by_cases h : t = 0
                      · exact .inl h
                      · exact .inr (e3 h)
                    exact xs_next ⟨_, _, _, _, rfl, good (decide_eq_true ⟨e, e2⟩)⟩
        · have h0 : isTupD y = false := by simpa using ht
          exact q_when (b := true) ((et_or (a := true) (b := true) (tL.is (by rw [h0]; rfl)) fun z => nomatch z).is (by simp)) (fun _ => xs_ret ev_bl (no (bad (by cases y <;> first | rfl | exact absurd rfl ht)))) fun z => nomatch z
      · rintro δ' ⟨s2, s3, s4, s5, rfl, hall⟩
        rw [List.take_length] at hall
        have st : ∀ y ∈ ds, y = stD (stepOf y) ∧ okStep ss.length (stepOf y) := fun y hy => step_st (hall y hy)
        have k2 : EvF E (tLc (iList E.K (tVar 1)) (gName 2) tYes (tCall (sp_law_lies E.K) [] E0 (tCons (tVar 0) (tCons (tVar 2) tNil))) [2]) [.d (stonesD ss), .d (.list ds), s2, s3, s4, s5] (ds.map fun y => stD (liesF ss (stepOf y))) :=
          evF_map ds id (fun y => stD (liesF ss (stepOf y))) (EvI.c (by rw [List.map_id]; exact ei_list (ev_var rfl))) (by omega) fun y hy => ⟨_, _, by simp, tg_name, lies_st (st y hy) (ev_var rfl) (ev_var rfl)⟩
        refine q_asg k2.ev ?_
        have lm : (ds.map fun y => stD (liesF ss (stepOf y))).length = ds.length := List.length_map _
        refine xs_seq (xs_for (ei_range2 (lo := 1) (n := (ds.length : Int)) (ed_cons ev_int (ed_cons ((ev_lenL (ev_var rfl)).is (by rw [lm])) ed_nil)) (by omega)) (fun i δ => ∃ s2 s4 s5, δ = [.d (stonesD ss), .d (.list ds), s2, .d (.list (ds.map fun y => stD (liesF ss (stepOf y)))), s4, s5] ∧ ∀ k, k < i → meetB ss (ds.getD k .none) (ds.getD (k + 1) .none) = true) ⟨_, _, _, rfl, fun _ h => absurd h (by omega)⟩ ?_ ?_)
        · rintro i v δ' hi ⟨s2, s4, s5, rfl, hm⟩
          have il : i < ((ds.length : Int) - 1).toNat := by
            have := (List.getElem?_eq_some_iff.mp hi).1
            rwa [intsD_len] at this
          rw [intsD_get il] at hi
          have hv : v = .int (1 + (i : Int)) := (Option.some.inj hi).symm
          subst hv
          have i1 : i < ds.length := by omega
          have i2 : i + 1 < ds.length := by omega
          have a1 : atI (ds.map fun y => stD (liesF ss (stepOf y))) (1 + (i : Int) - 1) = some (stD (liesF ss (stepOf ds[i]))) := by
            have e : 1 + (i : Int) - 1 = (i : Int) := by omega
            rw [e]
            exact atI_nat (by rw [List.getElem?_map, List.getElem?_eq_getElem i1]; rfl)
          have a2 : atI (ds.map fun y => stD (liesF ss (stepOf y))) (1 + (i : Int)) = some (stD (liesF ss (stepOf ds[i + 1]))) := by
            have e : 1 + (i : Int) = ((i + 1 : Nat) : Int) := by omega
            rw [e]
            exact atI_nat (by rw [List.getElem?_map, List.getElem?_eq_getElem i2]; rfl)
          have em : meetB ss (ds.getD i .none) (ds.getD (i + 1) .none) = decide ((liesF ss (stepOf ds[i])).2 = (liesF ss (stepOf ds[i + 1])).1) := by
            unfold meetB
            rw [List.getD_eq_getElem?_getD, List.getD_eq_getElem?_getD, List.getElem?_eq_getElem i1, List.getElem?_eq_getElem i2]
            rfl
          refine ⟨_, _, tg_name, ?_⟩
          refine xs_if (et_test (ev_neI (ev_st1 (ev_ixL (ev_var rfl) (ev_sub (ev_var rfl) ev_int) a1)) (ev_st0 (ev_ixL (ev_var rfl) (ev_var rfl) a2)))) (fun e => ?_) fun e => ?_
          · refine xs_ret ev_bl (no ?_)
            show (_ && (List.range (ds.length - 1)).all fun k => meetB ss (ds.getD k .none) (ds.getD (k + 1) .none)) = false
            have : ((List.range (ds.length - 1)).all fun k => meetB ss (ds.getD k .none) (ds.getD (k + 1) .none)) = false := by
              cases q : (List.range (ds.length - 1)).all fun k => meetB ss (ds.getD k .none) (ds.getD (k + 1) .none) with
              | false => rfl
              | true =>
                have := List.all_eq_true.mp q i (List.mem_range.mpr (by omega))
                rw [em] at this
                rw [this] at e
                cases e
            rw [this, Bool.and_false]
          · refine xs_next ⟨_, _, _, rfl, fun k hk => ?_⟩
            by_cases c : k = i
            · subst c
              rw [em]
              simpa using e
            · exact hm k (by omega)
        · rintro δ' ⟨s2, s4, s5, rfl, hm⟩
          rw [intsD_len] at hm
          refine xs_ret ev_bl ?_
          have : chainB ss (.list ds) = true := by
            show (decide (ds ≠ []) && ds.all (stepB ss.length) && (List.range (ds.length - 1)).all fun k => meetB ss (ds.getD k .none) (ds.getD (k + 1) .none)) = true
            rw [Bool.and_eq_true, Bool.and_eq_true]
            exact ⟨⟨decide_eq_true hne, List.all_eq_true.mpr hall⟩, List.all_eq_true.mpr fun k hk => hm k (by have := List.mem_range.mp hk; omega)⟩
          rw [this]
  · have h1' : isListD x = false := by simpa using h1
    exact q_when (b := true) ((et_or (a := true) (b := true) (et_not (et_B ((ev_isi_list (ev_var rfl)).is (by rw [h1'])))) fun z => nomatch z).is (by simp)) (fun _ => xs_ret ev_bl (by cases x <;> first | rfl | (exact absurd rfl h1))) fun z => nomatch z
theorem evF_catL {xs ys : List D} (ha : Ev E ta δ (.list xs)) (hb : Ev E tb δ (.list ys)) (hz : xs.length + ys.length ≤ 2000000) : EvF E (tOp rCat ta tb) δ (xs ++ ys) := fun σ G H Q s k =>
  ha σ G H _ s fun x G1 H1 g1 ⟨a, vs, e1, e2, e3⟩ => hb σ G1 H1 _ (s.grow g1) fun y G2 H2 g2 ⟨b, us, f1, f2, f3⟩ => by
    subst e1 f1
    refine ⟨a, b, vs, us, rfl, rfl, g2.i _ _ (g2.g _ _ e2), g2.i _ _ f2, by rw [e3.len, f3.len]; exact Nat.le_trans hz (by decide), fun p hp => ?_⟩
    have g := g1.trans g2
    exact k p _ G2 _ (g.trans (Gr.side g.i (same_new hp))) (g.h.free hp) (g.i.free hp) upd_same ((RpA.mono g2.g _ _ e3).append f3)
theorem xs_law_is_laying (ss : List (Int × Int)) (x : D) (hs : OkS ss) (hx : okX x) : Xs E (t_law_is_laying E.K w) (argSl [.d (stonesD ss), .d x] 3) fun o => o = .rt (.bool (layB ss x)) := by
  by_cases h1 : isListD x = true
  · obtain ⟨cs, rfl⟩ : ∃ ds, x = .list ds := by cases x <;> first | exact ⟨_, rfl⟩ | cases h1
    have hx : okA 4 (.list cs) = true := by
      rcases hx with h | h
      · exact h
      · cases h
    obtain ⟨hl, hcs⟩ := okA_list hx
    have h60 := hs.len
    have no : layB ss (.list cs) = false → Out.rt (.bool false) = Out.rt (.bool (layB ss (.list cs))) := fun h => by rw [h]
    refine q_when (b := false) ((et_not (et_B (ev_isi_list (ev_var (d := .list cs) rfl)))).is rfl) (fun z => nomatch z) fun _ => ?_
    have key : EvF E (tLc (iList E.K (tVar 1)) (gName 3) (tNot (tB (tCall (sp_law_chain E.K) [] E0 (tCons (tVar 0) (tCons (tVar 3) tNil))))) (tVar 3) [3]) (argSl [.d (stonesD ss), .d (.list cs)] 3) ((cs.filter fun c => !chainB ss c).map id) :=
      evF_lc cs id (fun c => !chainB ss c) id (EvI.c (by rw [List.map_id]; exact ei_list (ev_var rfl))) (by omega) fun c hc => ⟨_, _, by simp, tg_name, et_not (et_B (evc_law_chain (ev_var rfl) (ev_var rfl) (hcs c hc))), fun _ => ev_var rfl⟩
    rw [List.map_id] at key
    refine q_when (b := decide ((cs.filter fun c => !chainB ss c) ≠ [])) (et_test ((ev_neD key.ev (ev_lst ed_nil (by decide)) (okA_shp (okA_filter (n := 3) _ hx) (by decide)) shp_nil).is (by rw [eqv_nilN]))) (fun e => ?_) fun e => ?_
    · refine xs_ret ev_bl (no ?_)
      have e := of_decide_eq_true e
      obtain ⟨c, hc⟩ := List.exists_mem_of_ne_nil _ e
      obtain ⟨hc1, hc2⟩ := List.mem_filter.mp hc
      show (cs.all (chainB ss) && _) = false
      have : cs.all (chainB ss) = false := by
        cases q : cs.all (chainB ss) with
        | false => rfl
        | true => rw [List.all_eq_true.mp q c hc1] at hc2; cases hc2
      rw [this]; rfl
    · have e : (cs.filter fun c => !chainB ss c) = [] := by simpa using e
      have hall : ∀ c ∈ cs, chainB ss c = true := fun c hc => by
        have := List.filter_eq_nil_iff.mp e c hc
        simpa using this
      refine q_asg (d := .list []) (ev_lst ed_nil (by decide)) ?_
      refine xs_seq (xs_for (ei_list (xs := cs) (ev_var rfl)) (fun i δ => ∃ s3 s4, δ = [.d (stonesD ss), .d (.list cs), .d (intsL (placesOf (cs.take i))), s3, s4] ∧ (placesOf (cs.take i)).length ≤ 1000 * i ∧ i ≤ cs.length) ⟨_, _, rfl, by simp [placesOf], Nat.zero_le _⟩ ?_ ?_)
      · rintro i x δ' hi ⟨s3, s4, rfl, hsz, _⟩
        have him : x ∈ cs := List.mem_of_getElem? hi
        have hil : i < cs.length := (List.getElem?_eq_some_iff.mp hi).1
        obtain ⟨ds, rfl, hne, hds⟩ := chain_list (hall x him)
        obtain ⟨dl, _⟩ := okA_list (hcs _ him)
        have tk : cs.take (i + 1) = cs.take i ++ [.list ds] := by rw [List.take_succ, hi]; rfl
        have pk : placesOf (cs.take (i + 1)) = placesOf (cs.take i) ++ ds.map fun s => (stepOf s).1 := by
          rw [tk]
          unfold placesOf
          rw [List.map_append, List.flatten_append]
          simp [stepsOf]
        refine ⟨_, _, tg_name, ?_⟩
        have k2 : EvF E (tLc (iList E.K (tVar 3)) (gName 4) tYes (tOp (rIxT E.K) (tVar 4) (tC (.int 0))) [4]) [.d (stonesD ss), .d (.list cs), .d (intsL (placesOf (cs.take i))), .d (.list ds), s4] (ds.map fun s => .int (stepOf s).1) := by
          refine evF_map ds id (fun s => .int (stepOf s).1) (EvI.c (by rw [List.map_id]; exact ei_list (ev_var rfl))) (by omega) fun a ha => ⟨_, _, by simp, tg_name, ?_⟩
          obtain ⟨q1, _⟩ := step_st (List.all_eq_true.mp hds a ha)
          refine ev_st0 (s := stepOf a) ?_
          rw [← q1]
          exact ev_var rfl
        refine xs_asg (evF_catL (xs := (placesOf (cs.take i)).map .int) (ev_var rfl) k2.ev (by simp only [List.length_map]; omega)).ev ⟨.d (.list ds), s4, ?_, ?_, hil⟩
        · rw [pk]
          unfold intsL
          rw [List.map_append, List.map_map]
          rfl
        · rw [pk, List.length_append, List.length_map]; omega
      · rintro δ' ⟨s3, s4, rfl, hsz, _⟩
        rw [List.take_length] at hsz ⊢
        have k3 : EvF E (tLstRg (tRg1 (tCB (cLen E.K) (tCons (tVar 0) tNil)))) [.d (stonesD ss), .d (.list cs), .d (intsL (placesOf cs)), s3, s4] ((upTo ss.length).map .int) := by
          unfold upTo
          rw [← range_ints]
          exact evF_listRg (ev_lenSt (ev_var rfl)) ⟨by omega, by omega⟩
        refine xs_ret (ev_eqD (evF_sorted (ns := placesOf cs) (ms := isort (placesOf cs)) (ev_var rfl) fun ms p h => isort_is p h).ev k3.ev (shp_ints _) (shp_ints _)) ?_
        rw [PyData.eqv, eqv_ints]
        show _ = Out.rt (.bool (cs.all (chainB ss) && _))
        rw [List.all_eq_true.mpr hall]
        rfl
  · have h1' : isListD x = false := by simpa using h1
    exact q_when (b := true) ((et_not (et_B (ev_isi_list (ev_var rfl)))).is (by rw [h1']; rfl)) (fun _ => xs_ret ev_bl (by cases x <;> first | rfl | (exact absurd rfl h1))) fun z => nomatch z
end
end PL

/-! M8: the walk over roads (k05): what is kept while it goes. -/
namespace PL
open PySem L2
/-- a road: its place (-1: no stone), its ends -/
abbrev Rd := Int × Int × Int
def rdE (r : Rd) : Int × Int := (r.2.1, r.2.2)
def rdAt (R : List Rd) (i : Nat) : Rd := R.getD i (-1, 0, 0)
/-- a road gone in a direction -/
def frm (R : List Rd) (x : Nat × Int) : Int := (turnF (rdE (rdAt R x.1)) x.2).1
def too (R : List Rd) (x : Nat × Int) : Int := (turnF (rdE (rdAt R x.1)) x.2).2
/-- how often a number stands at the ends of the roads that are left -/
def rem (R : List Rd) (gone : List Nat) (n : Int) : Nat := (((List.range R.length).filter fun i => !gone.contains i).map fun i => cE n (rdE (rdAt R i))).sum
/-- the first road left at a number -/
def nextF (R : List Rd) (gone : List Nat) (n : Int) : Option Nat := (List.range R.length).find? fun i => !gone.contains i && ((rdAt R i).2.1 == n || (rdAt R i).2.2 == n)
theorem next_ok {R : List Rd} {gone : List Nat} {n : Int} {i : Nat} (h : nextF R gone n = some i) : i < R.length ∧ ¬ i ∈ gone ∧ ((rdAt R i).2.1 = n ∨ (rdAt R i).2.2 = n) := by
  have h1 := List.find?_some h
  have h2 := List.mem_of_find?_eq_some h
  simp only [Bool.and_eq_true, Bool.not_eq_true', Bool.or_eq_true, beq_iff_eq] at h1
  refine ⟨List.mem_range.mp h2, fun c => ?_, h1.2⟩
  have := h1.1
  rw [List.contains_iff_mem.mpr c] at this
  cases this
theorem next_no {R : List Rd} {gone : List Nat} {n : Int} (h : nextF R gone n = none) : rem R gone n = 0 := by
  unfold nextF at h
  rw [List.find?_eq_none] at h
  unfold rem
  have : ∀ l : List Nat, (∀ i ∈ l, cE n (rdE (rdAt R i)) = 0) → (l.map fun i => cE n (rdE (rdAt R i))).sum = 0 := by
    intro l
    induction l with
    | nil => intro _; rfl
    | cons a l ih =>
      intro hl
      rw [List.map_cons, List.sum_cons, hl a List.mem_cons_self, ih fun i hi => hl i (List.mem_cons_of_mem _ hi)]
  refine this _ fun i hi => ?_
  obtain ⟨h1, h2⟩ := List.mem_filter.mp hi
  have h3 := h i h1
  simp only [Bool.and_eq_true, h2, true_and, Bool.or_eq_true, beq_iff_eq, not_or] at h3
  unfold cE rdE
  rw [if_neg h3.1, if_neg h3.2]
/-- a road taken away -/
theorem rem_take {R : List Rd} {gone : List Nat} {i : Nat} (hi : i < R.length) (hg : ¬ i ∈ gone) (n : Int) : rem R gone n = cE n (rdE (rdAt R i)) + rem R (i :: gone) n := by
  unfold rem
  have key : ∀ l : List Nat, l.Nodup → (i ∈ l → ((l.filter fun j => !gone.contains j).map fun j => cE n (rdE (rdAt R j))).sum = cE n (rdE (rdAt R i)) + ((l.filter fun j => !(i :: gone).contains j).map fun j => cE n (rdE (rdAt R j))).sum) ∧ (¬ i ∈ l → ((l.filter fun j => !gone.contains j).map fun j => cE n (rdE (rdAt R j))).sum = ((l.filter fun j => !(i :: gone).contains j).map fun j => cE n (rdE (rdAt R j))).sum) := by
    intro l
    induction l with
    | nil => intro _; exact ⟨fun h => absurd h (by simp), fun _ => rfl⟩
    | cons a l ih =>
      intro nd
      obtain ⟨n1, n2⟩ := List.nodup_cons.mp nd
      obtain ⟨ih1, ih2⟩ := ih n2
      by_cases e : a = i
      · subst e
        have c1 : gone.contains a = false := by
          cases q : gone.contains a with
          | false => rfl
          | true => exact absurd (List.contains_iff_mem.mp q) hg
        have c2 : (a :: gone).contains a = true := List.contains_iff_mem.mpr List.mem_cons_self
        refine ⟨fun _ => ?_, fun h => absurd List.mem_cons_self h⟩
        rw [List.filter_cons, List.filter_cons, c1, c2]
        simp only [Bool.not_false, if_true, Bool.not_true, Bool.false_eq_true, if_false]
        rw [List.map_cons, List.sum_cons, ih2 n1]
      · have c : (i :: gone).contains a = gone.contains a := by
          cases q : gone.contains a with
          | true => exact List.contains_iff_mem.mpr (List.mem_cons_of_mem _ (List.contains_iff_mem.mp q))
          | false =>
            cases q2 : (i :: gone).contains a with
            | false => rfl
            | true =>
              rcases List.mem_cons.mp (List.contains_iff_mem.mp q2) with z | z
              · exact absurd z e
              · rw [List.contains_iff_mem.mpr z] at q; cases q
        refine ⟨fun h => ?_, fun h => ?_⟩
        · have h' : i ∈ l := by
            rcases List.mem_cons.mp h with z | z
            · exact absurd z.symm e
            · exact z
          rw [List.filter_cons, List.filter_cons, c]
          cases q : gone.contains a with
          | true => simp only [Bool.not_true, Bool.false_eq_true, if_false]; exact ih1 h'
          | false =>
            simp only [Bool.not_false, if_true]
            rw [List.map_cons, List.sum_cons, List.map_cons, List.sum_cons, ih1 h']
            omega
        · have h' : ¬ i ∈ l := fun z => h (List.mem_cons_of_mem _ z)
          rw [List.filter_cons, List.filter_cons, c]
          cases q : gone.contains a with
          | true => simp only [Bool.not_true, Bool.false_eq_true, if_false]; exact ih2 h'
          | false =>
            simp only [Bool.not_false, if_true]
            rw [List.map_cons, List.sum_cons, List.map_cons, List.sum_cons, ih2 h']
  exact (key _ List.nodup_range).1 (List.mem_range.mpr hi)

theorem rem_congr {R : List Rd} {g1 g2 : List Nat} (h : ∀ i, i ∈ g1 ↔ i ∈ g2) (n : Int) : rem R g1 n = rem R g2 n := by
  unfold rem
  have : ∀ i, g1.contains i = g2.contains i := fun i => by
    cases q : g1.contains i with
    | true => exact (List.contains_iff_mem.mpr ((h i).mp (List.contains_iff_mem.mp q))).symm
    | false =>
      cases q2 : g2.contains i with
      | false => rfl
      | true => rw [List.contains_iff_mem.mpr ((h i).mpr (List.contains_iff_mem.mp q2))] at q; cases q
  congr 2
  exact List.filter_congr fun i _ => by rw [this i]
/-- the number on top -/
def curW (R : List Rd) (v0 : Int) : List (Nat × Int) → Int
  | [] => v0
  | x :: _ => too R x
/-- where what is popped next must end -/
def tgtW (R : List Rd) (e : Int) : List (Nat × Int) → Int
  | [] => e
  | x :: _ => frm R x
def DownW (R : List Rd) (v0 : Int) : List (Nat × Int) → Prop
  | [] => True
  | x :: S => frm R x = curW R v0 S ∧ DownW R v0 S
def PathW (R : List Rd) (e : Int) : List (Nat × Int) → Prop
  | [] => True
  | x :: F => too R x = tgtW R e F ∧ PathW R e F
structure WInv (R : List Rd) (v0 e : Int) (S F : List (Nat × Int)) : Prop where
  down : DownW R v0 S
  path : PathW R e F
  nd : ((S ++ F).map Prod.fst).Nodup
  lt : ∀ x ∈ S ++ F, x.1 < R.length ∧ (x.2 = 0 ∨ x.2 = 1)
  par : ∀ n, rem R ((S ++ F).map Prod.fst) n % 2 = (ind (n = tgtW R e F) + ind (n = curW R v0 S)) % 2
  zero : ∀ x ∈ F, rem R ((S ++ F).map Prod.fst) (too R x) = 0
/-- how the next road is gone -/
def wayW (R : List Rd) (i : Nat) (n : Int) : Int := if (rdAt R i).2.1 = n then 0 else 1
theorem way_frm {R : List Rd} {i : Nat} {n : Int} (h : (rdAt R i).2.1 = n ∨ (rdAt R i).2.2 = n) : frm R (i, wayW R i n) = n := by
  unfold frm wayW turnF rdE
  by_cases c : (rdAt R i).2.1 = n
  · simp [c]
  · have c2 : (rdAt R i).2.2 = n := h.resolve_left c
    simp [c, c2]
theorem ind_swap (a n : Int) : (if a = n then 1 else 0 : Nat) = ind (n = a) := by
  unfold ind
  by_cases h : a = n
  · rw [if_pos h, if_pos h.symm]
  · rw [if_neg h, if_neg (Ne.symm h)]
theorem cE_way (R : List Rd) (x : Nat × Int) (n : Int) : cE n (rdE (rdAt R x.1)) = ind (n = frm R x) + ind (n = too R x) := by
  have e : cE n (turnF (rdE (rdAt R x.1)) x.2) = cE n (rdE (rdAt R x.1)) := cE_turn n _ _
  rw [← e]
  unfold cE frm too
  rw [ind_swap, ind_swap]
theorem WInv.push {R : List Rd} {v0 e : Int} {S F : List (Nat × Int)} {i : Nat} (w : WInv R v0 e S F) (h : nextF R ((S ++ F).map Prod.fst) (curW R v0 S) = some i) : WInv R v0 e ((i, wayW R i (curW R v0 S)) :: S) F := by
  obtain ⟨h1, h2, h3⟩ := next_ok h
  have rt := rem_take h1 h2
  have f := way_frm h3
  refine ⟨⟨f, w.down⟩, w.path, ?_, fun x hx => ?_, fun n => ?_, fun x hx => ?_⟩
  · exact List.nodup_cons.mpr ⟨h2, w.nd⟩
  · rcases List.mem_cons.mp hx with z | z
    · subst z
      refine ⟨h1, ?_⟩
      show wayW R i _ = 0 ∨ wayW R i _ = 1
      unfold wayW
      split <;> simp
    · exact w.lt x z
  · have p := w.par n
    have r := rt n
    rw [cE_way R (i, wayW R i (curW R v0 S)) n, f] at r
    show rem R (i :: (S ++ F).map Prod.fst) n % 2 = (ind (n = tgtW R e F) + ind (n = too R (i, wayW R i (curW R v0 S)))) % 2
    omega
  · have := w.zero x hx
    have r := rt (too R x)
    show rem R (i :: (S ++ F).map Prod.fst) (too R x) = 0
    omega
theorem WInv.stuck {R : List Rd} {v0 e : Int} {S F : List (Nat × Int)} (w : WInv R v0 e S F) (h : nextF R ((S ++ F).map Prod.fst) (curW R v0 S) = none) : curW R v0 S = tgtW R e F := by
  have p := w.par (curW R v0 S)
  rw [next_no h] at p
  by_cases c : curW R v0 S = tgtW R e F
  · exact c
  · have a : ind (curW R v0 S = tgtW R e F) = 0 := if_neg c
    have b : ind (curW R v0 S = curW R v0 S) = 1 := if_pos rfl
    rw [a, b] at p
    omega
theorem WInv.pop {R : List Rd} {v0 e : Int} {x : Nat × Int} {S F : List (Nat × Int)} (w : WInv R v0 e (x :: S) F) (h : nextF R (((x :: S) ++ F).map Prod.fst) (curW R v0 (x :: S)) = none) : WInv R v0 e S (x :: F) := by
  have st := w.stuck h
  have z := next_no h
  have perm : (S ++ x :: F).Perm ((x :: S) ++ F) := List.perm_middle
  have pm : ((S ++ x :: F).map Prod.fst).Perm (((x :: S) ++ F).map Prod.fst) := perm.map _
  have rc := rem_congr (R := R) (g1 := (S ++ x :: F).map Prod.fst) (g2 := ((x :: S) ++ F).map Prod.fst) fun i => pm.mem_iff
  obtain ⟨d1, d2⟩ := w.down
  refine ⟨d2, ⟨st, w.path⟩, pm.nodup_iff.mpr w.nd, fun y hy => w.lt y (perm.mem_iff.mp hy), fun n => ?_, fun y hy => ?_⟩
  · rw [rc n]
    have p := w.par n
    show _ = (ind (n = frm R x) + ind (n = curW R v0 S)) % 2
    rw [d1]
    have e2 : ind (n = tgtW R e F) = ind (n = curW R v0 (x :: S)) := by rw [st]
    omega
  · rw [rc]
    rcases List.mem_cons.mp hy with q | q
    · subst q; exact z
    · exact w.zero y q
/-- the end: all that hangs together is gone -/
theorem WInv.fin {R : List Rd} {v0 e : Int} {F : List (Nat × Int)} (w : WInv R v0 e [] F) (h : nextF R (([] ++ F : List (Nat × Int)).map Prod.fst) v0 = none) : v0 = tgtW R e F ∧ ∀ i, i < R.length → ((∃ n, (n = v0 ∨ ∃ x ∈ F, n = too R x) ∧ ((rdAt R i).2.1 = n ∨ (rdAt R i).2.2 = n)) → i ∈ F.map Prod.fst) := by
  refine ⟨w.stuck h, fun i hi ⟨n, hn, hr⟩ => ?_⟩
  have z : rem R (F.map Prod.fst) n = 0 := by
    rcases hn with rfl | ⟨x, hx, rfl⟩
    · exact next_no h
    · exact w.zero x hx
  by_cases c : i ∈ F.map Prod.fst
  · exact c
  · have r := rem_take hi c n
    rw [z] at r
    have : cE n (rdE (rdAt R i)) = 0 := by omega
    unfold cE rdE at this
    rcases hr with q | q <;> simp [q] at this
/-- the walk, a turn of the loop each -/
def walkN (R : List Rd) (v0 : Int) : Nat → List (Nat × Int) → List (Nat × Int) → List (Nat × Int)
  | 0, _, F => F
  | k + 1, S, F => match nextF R ((S ++ F).map Prod.fst) (curW R v0 S) with
    | some i => walkN R v0 k ((i, wayW R i (curW R v0 S)) :: S) F
    | none => match S with
      | [] => F
      | x :: S' => walkN R v0 k S' (x :: F)
theorem nodup_lt {l : List Nat} {n : Nat} (nd : l.Nodup) (h : ∀ x ∈ l, x < n) : l.length ≤ n := by
  have p : l.Perm ((List.range n).filter fun x => decide (x ∈ l)) := by
    refine (List.perm_ext_iff_of_nodup nd (List.nodup_range.filter _)).mpr fun x => ?_
    rw [List.mem_filter, List.mem_range, decide_eq_true_eq]
    exact ⟨fun z => ⟨h x z, z⟩, fun z => z.2⟩
  have h1 := p.length_eq
  have h2 := List.length_filter_le (fun x => decide (x ∈ l)) (List.range n)
  rw [List.length_range] at h2
  omega
theorem WInv.size {R : List Rd} {v0 e : Int} {S F : List (Nat × Int)} (w : WInv R v0 e S F) : S.length + F.length ≤ R.length := by
  have h := nodup_lt w.nd (n := R.length) fun i hi => by
    obtain ⟨x, hx, rfl⟩ := List.mem_map.mp hi
    exact (w.lt x hx).1
  rw [List.length_map, List.length_append] at h
  exact h
theorem walk_fin {R : List Rd} {v0 e : Int} : ∀ (k : Nat) {S F : List (Nat × Int)}, WInv R v0 e S F → 2 * (R.length - S.length - F.length) + S.length + 1 ≤ k → WInv R v0 e [] (walkN R v0 k S F) ∧ nextF R (([] ++ walkN R v0 k S F : List (Nat × Int)).map Prod.fst) v0 = none
  | 0, _, _, _, h => by omega
  | k + 1, S, F, w, h => by
    unfold walkN
    cases q : nextF R ((S ++ F).map Prod.fst) (curW R v0 S) with
    | some i =>
      have w2 := w.push q
      have sz := w2.size
      rw [List.length_cons] at sz
      refine walk_fin k w2 ?_
      rw [List.length_cons]
      omega
    | none =>
      cases S with
      | nil => exact ⟨w, q⟩
      | cons x S =>
        have w2 := w.pop q
        have sz := w2.size
        rw [List.length_cons] at sz
        refine walk_fin k w2 ?_
        rw [List.length_cons]
        rw [List.length_cons] at h
        omega
/-- at the start: every number but v0 and e stands an even number of times -/
theorem winv_start {R : List Rd} {v0 e : Int} (h : ∀ n, rem R [] n % 2 = (ind (n = e) + ind (n = v0)) % 2) : WInv R v0 e [] [] := ⟨trivial, trivial, List.nodup_nil, fun x hx => absurd hx (by simp), h, fun x hx => absurd hx (by simp)⟩
def walkF (R : List Rd) (v0 : Int) : List (Nat × Int) := walkN R v0 (2 * R.length + 1) [] []
/-- what the walk is: a way from v0 to e over different roads, over all that hang together with v0 -/
theorem walk_is {R : List Rd} {v0 e : Int} (h : ∀ n, rem R [] n % 2 = (ind (n = e) + ind (n = v0)) % 2) : WInv R v0 e [] (walkF R v0) ∧ v0 = tgtW R e (walkF R v0) ∧ ∀ i, i < R.length → ((∃ n, (n = v0 ∨ ∃ x ∈ walkF R v0, n = too R x) ∧ ((rdAt R i).2.1 = n ∨ (rdAt R i).2.2 = n)) → i ∈ (walkF R v0).map Prod.fst) := by
  obtain ⟨w, z⟩ := walk_fin (2 * R.length + 1) (winv_start h) (by simp)
  exact ⟨w, w.fin z⟩
end PL

/-! M9: the joins between odd ends (k05). -/
namespace PL
open PySem L2
/-- the roads that join all but the first and the last odd end; handed the odd ends behind the first -/
def joinsT : List Int → List Rd
  | a :: b :: c :: r => (-1, a, b) :: joinsT (c :: r)
  | _ => []
theorem joins_count (n : Int) : ∀ l : List Int, l.length % 2 = 1 → ((joinsT l).map fun r => cE n (rdE r)).sum = l.dropLast.count n
  | [], h => by simp at h
  | [a], _ => rfl
  | [a, b], h => by simp at h
  | a :: b :: c :: r, h => by
    have ih := joins_count n (c :: r) (by simp only [List.length_cons] at h ⊢; omega)
    show cE n (a, b) + ((joinsT (c :: r)).map fun r => cE n (rdE r)).sum = (a :: b :: c :: r).dropLast.count n
    rw [ih]
    have e : (a :: b :: c :: r).dropLast = a :: b :: (c :: r).dropLast := rfl
    rw [e, List.count_cons, List.count_cons]
    unfold cE
    simp only [beq_iff_eq]
    omega
theorem joins_len : ∀ l : List Int, l.length % 2 = 1 → 2 * (joinsT l).length + 1 = l.length
  | [], h => by simp at h
  | [a], _ => rfl
  | [a, b], h => by simp at h
  | a :: b :: c :: r, h => by
    have ih := joins_len (c :: r) (by simp only [List.length_cons] at h ⊢; omega)
    have e : (joinsT (a :: b :: c :: r)).length = (joinsT (c :: r)).length + 1 := rfl
    rw [e]
    simp only [List.length_cons] at ih ⊢
    omega
theorem sum_two {α : Type} (f : α → Nat) (a b : List α) : ((a ++ b).map f).sum = (a.map f).sum + (b.map f).sum := by rw [List.map_append, List.sum_append]
theorem rem_all (R : List Rd) (n : Int) : rem R [] n = (R.map fun r => cE n (rdE r)).sum := by
  unfold rem
  have e : (List.range R.length).filter (fun i => !([] : List Nat).contains i) = List.range R.length := List.filter_eq_self.mpr fun _ _ => rfl
  rw [e]
  congr 1
  apply List.ext_getElem?
  intro i
  rw [List.getElem?_map, List.getElem?_map]
  by_cases h : i < R.length
  · rw [List.getElem?_range h, List.getElem?_eq_getElem h]
    show some (cE n (rdE (rdAt R i))) = some _
    unfold rdAt
    rw [List.getD_eq_getElem?_getD, List.getElem?_eq_getElem h]
    rfl
  · rw [List.getElem?_eq_none (by rw [List.length_range]; omega), List.getElem?_eq_none (by omega)]
    rfl

/-- a group's stones as roads, and the joins -/
def roadsF (ss : List (Int × Int)) (g odd : List Int) : List Rd := (g.map fun i => (i, stAt ss i)) ++ joinsT odd.tail
theorem odd_count (ss : List (Int × Int)) (g : List Int) (n : Int) : (oddF ss g).count n = (endsF ss g).count n % 2 := by
  have nd : (oddF ss g).Nodup := (isort_perm _).nodup_iff.mpr ((dd_nd _).filter _)
  have hm : n ∈ oddF ss g ↔ (endsF ss g).count n % 2 = 1 := by
    unfold oddF
    rw [isort_mem, List.mem_filter, dd_mem]
    constructor
    · rintro ⟨_, h⟩
      unfold oddB at h
      have := of_decide_eq_true h
      omega
    · intro h
      refine ⟨List.count_pos_iff.mp (by omega), ?_⟩
      unfold oddB
      exact decide_eq_true (by omega)
  by_cases c : n ∈ oddF ss g
  · rw [hm.mp c]
    have h1 := List.nodup_iff_count.mp nd n
    have h2 := List.count_pos_iff.mpr c
    omega
  · rw [List.count_eq_zero_of_not_mem c]
    have : ¬ (endsF ss g).count n % 2 = 1 := fun z => c (hm.mpr z)
    omega
theorem roads_rem (ss : List (Int × Int)) (g odd : List Int) (n : Int) : rem (roadsF ss g odd) [] n = (endsF ss g).count n + ((joinsT odd.tail).map fun r => cE n (rdE r)).sum := by
  rw [rem_all]
  unfold roadsF
  rw [sum_two, cnt_ends, List.map_map]
  rfl
theorem roads_par {ss : List (Int × Int)} {g : List Int} (ev : (oddF ss g).length % 2 = 0) (s0 n : Int) : rem (roadsF ss g (oddF ss g)) [] n % 2 = (ind (n = (oddF ss g).getLastD s0) + ind (n = (oddF ss g).headD s0)) % 2 := by
  rw [roads_rem]
  have oc := odd_count ss g n
  generalize oddF ss g = odd at ev oc
  cases odd with
  | nil =>
    have e : (endsF ss g).count n % 2 = 0 := by rw [← oc]; rfl
    show ((endsF ss g).count n + 0) % 2 = (ind (n = s0) + ind (n = s0)) % 2
    omega
  | cons o rest =>
    rw [List.length_cons] at ev
    have hr : rest.length % 2 = 1 := by omega
    have hne : rest ≠ [] := fun e => by rw [e] at hr; simp at hr
    have e1 : rest = rest.dropLast ++ [rest.getLast hne] := (List.dropLast_concat_getLast hne).symm
    have e2 : (o :: rest).getLastD s0 = rest.getLast hne := by
      rw [List.getLastD_eq_getLast?, List.getLast?_cons, List.getLast?_eq_some_getLast hne]
      rfl
    have jc := joins_count n rest hr
    have oc2 : (o :: rest).count n = ind (n = o) + rest.dropLast.count n + ind (n = rest.getLast hne) := by
      conv => lhs; rw [e1]
      rw [List.count_cons, List.count_append, List.count_cons, List.count_nil]
      simp only [beq_iff_eq]
      rw [ind_swap, ind_swap]
      omega
    rw [e2]
    show ((endsF ss g).count n + ((joinsT rest).map fun r => cE n (rdE r)).sum) % 2 = (ind (n = rest.getLast hne) + ind (n = o)) % 2
    rw [jc]
    omega

theorem frm_in {R : List Rd} {e : Int} : ∀ {F : List (Nat × Int)}, PathW R e F → ∀ x ∈ F, frm R x = tgtW R e F ∨ ∃ y ∈ F, frm R x = too R y
  | [], _, x, h => absurd h (by simp)
  | z :: F, ⟨h1, h2⟩, x, hx => by
    rcases List.mem_cons.mp hx with q | q
    · subst q; exact .inl rfl
    · rcases frm_in h2 x q with a | ⟨y, a, b⟩
      · exact .inr ⟨z, List.mem_cons_self, by rw [a, h1]⟩
      · exact .inr ⟨y, List.mem_cons_of_mem _ a, b⟩
theorem ends_of (R : List Rd) (x : Nat × Int) (n : Int) (h : (rdAt R x.1).2.1 = n ∨ (rdAt R x.1).2.2 = n) : n = frm R x ∨ n = too R x := by
  unfold frm too turnF rdE
  split
  · rcases h with h | h
    · exact .inr h.symm
    · exact .inl h.symm
  · rcases h with h | h
    · exact .inl h.symm
    · exact .inr h.symm
theorem too_ends (R : List Rd) (x : Nat × Int) : too R x = (rdAt R x.1).2.1 ∨ too R x = (rdAt R x.1).2.2 := by
  unfold too turnF rdE
  split
  · exact .inl rfl
  · exact .inr rfl
theorem joins_ends : ∀ {l : List Int} {r : Rd}, r ∈ joinsT l → r.1 = -1 ∧ r.2.1 ∈ l ∧ r.2.2 ∈ l
  | [], r, h => absurd h (by simp [joinsT])
  | [a], r, h => absurd h (by simp [joinsT])
  | [a, b], r, h => absurd h (by simp [joinsT])
  | a :: b :: c :: l, r, h => by
    have h : r = (-1, a, b) ∨ r ∈ joinsT (c :: l) := by simpa [joinsT] using h
    rcases h with h | h
    · subst h; exact ⟨rfl, by simp, by simp⟩
    · obtain ⟨x, y, z⟩ := joins_ends h
      exact ⟨x, List.mem_cons_of_mem _ (List.mem_cons_of_mem _ y), List.mem_cons_of_mem _ (List.mem_cons_of_mem _ z)⟩
/-- a group: its numbers, its places -/
structure GrpW (ss : List (Int × Int)) (N g : List Int) : Prop where
  closed : ∀ s ∈ ss, s.1 ∈ N ↔ s.2 ∈ N
  conn : ∀ S : Int → Prop, (∀ s ∈ ss, S s.1 ↔ S s.2) → ∀ n ∈ N, ∀ m ∈ N, S n → S m
  pl : ∀ i, i ∈ g ↔ (0 ≤ i ∧ i < (ss.length : Int)) ∧ (stAt ss i).1 ∈ N
theorem stAt_mem {ss : List (Int × Int)} {i : Int} (h : 0 ≤ i ∧ i < (ss.length : Int)) : stAt ss i ∈ ss := by
  unfold stAt
  rw [List.getD_eq_getElem?_getD, List.getElem?_eq_getElem (by omega)]
  exact List.getElem_mem _
theorem road_in {ss : List (Int × Int)} {N g odd : List Int} (w : GrpW ss N g) (ho : ∀ n ∈ odd, n ∈ N) {r : Rd} (h : r ∈ roadsF ss g odd) : r.2.1 ∈ N ∧ r.2.2 ∈ N := by
  rcases List.mem_append.mp h with q | q
  · obtain ⟨i, hi, rfl⟩ := List.mem_map.mp q
    obtain ⟨a, b⟩ := (w.pl i).mp hi
    exact ⟨b, (w.closed _ (stAt_mem a)).mp b⟩
  · obtain ⟨_, y, z⟩ := joins_ends q
    exact ⟨ho _ (List.mem_of_mem_tail y), ho _ (List.mem_of_mem_tail z)⟩
theorem rdAt_mem {R : List Rd} {i : Nat} (h : i < R.length) : rdAt R i ∈ R := by
  unfold rdAt
  rw [List.getD_eq_getElem?_getD, List.getElem?_eq_getElem h]
  exact List.getElem_mem _
/-- the walk goes over every road of the group -/
theorem walk_all {ss : List (Int × Int)} {N g odd : List Int} (w : GrpW ss N g) (ho : ∀ n ∈ odd, n ∈ N) {v0 e : Int} (hv : v0 ∈ N) (par : ∀ n, rem (roadsF ss g odd) [] n % 2 = (ind (n = e) + ind (n = v0)) % 2) : ∀ i, i < (roadsF ss g odd).length → i ∈ (walkF (roadsF ss g odd) v0).map Prod.fst := by
  obtain ⟨wi, h1, h2⟩ := walk_is par
  generalize hF : walkF (roadsF ss g odd) v0 = F at wi h1 h2 ⊢
  have lt : ∀ x ∈ F, x.1 < (roadsF ss g odd).length := fun x hx => (wi.lt x (by simpa using hx)).1
  have vin : ∀ n, (n = v0 ∨ ∃ x ∈ F, n = too (roadsF ss g odd) x) → n ∈ N := fun n hn => by
    rcases hn with rfl | ⟨x, hx, rfl⟩
    · exact hv
    · obtain ⟨a, b⟩ := road_in w ho (rdAt_mem (lt x hx))
      rcases too_ends (roadsF ss g odd) x with q | q <;> rw [q]
      · exact a
      · exact b
  have both : ∀ x ∈ F, ∀ n, (rdAt (roadsF ss g odd) x.1).2.1 = n ∨ (rdAt (roadsF ss g odd) x.1).2.2 = n → (n = v0 ∨ ∃ x ∈ F, n = too (roadsF ss g odd) x) := fun x hx n hn => by
    rcases ends_of _ x n hn with q | q
    · rcases frm_in wi.path x hx with a | ⟨y, a, b⟩
      · exact .inl (by rw [q, a, ← h1])
      · exact .inr ⟨y, a, by rw [q, b]⟩
    · exact .inr ⟨x, hx, q⟩
  have half : ∀ s ∈ ss, ∀ n m, ((n = s.1 ∧ m = s.2) ∨ (n = s.2 ∧ m = s.1)) → (n = v0 ∨ ∃ x ∈ F, n = too (roadsF ss g odd) x) → (m = v0 ∨ ∃ x ∈ F, m = too (roadsF ss g odd) x) := fun s hs n m hnm hn => by
    have nN := vin n hn
    have s1 : s.1 ∈ N := by
      rcases hnm with ⟨a, _⟩ | ⟨a, _⟩
      · rw [← a]; exact nN
      · rw [w.closed s hs, ← a]; exact nN
    obtain ⟨j, hj, ej⟩ := List.mem_iff_getElem.mp hs
    have es : stAt ss (j : Int) = s := by
      unfold stAt
      rw [Int.toNat_natCast, List.getD_eq_getElem?_getD, List.getElem?_eq_getElem hj]
      exact ej
    have hg : (j : Int) ∈ g := (w.pl _).mpr ⟨⟨by omega, by omega⟩, by rw [es]; exact s1⟩
    obtain ⟨k, hk, ek⟩ := List.mem_iff_getElem.mp hg
    have kl : k < (roadsF ss g odd).length := by unfold roadsF; rw [List.length_append, List.length_map]; omega
    have rk : rdAt (roadsF ss g odd) k = ((j : Int), s) := by
      unfold rdAt roadsF
      rw [List.getD_eq_getElem?_getD, List.getElem?_append_left (by rw [List.length_map]; exact hk), List.getElem?_map, List.getElem?_eq_getElem hk, ek]
      show ((j : Int), stAt ss (j : Int)) = _
      rw [es]
    have kin := h2 k kl ⟨n, hn, by
      rw [rk]
      rcases hnm with ⟨a, _⟩ | ⟨a, _⟩
      · exact .inl a.symm
      · exact .inr a.symm⟩
    obtain ⟨x, hx, ex⟩ := List.mem_map.mp kin
    refine both x hx m ?_
    rw [ex, rk]
    rcases hnm with ⟨_, b⟩ | ⟨_, b⟩
    · exact .inr b.symm
    · exact .inl b.symm
  intro i hi
  obtain ⟨a, _⟩ := road_in w ho (rdAt_mem hi)
  have reach := w.conn (fun n => n = v0 ∨ ∃ x ∈ F, n = too (roadsF ss g odd) x) (fun s hs => ⟨half s hs _ _ (.inl ⟨rfl, rfl⟩), half s hs _ _ (.inr ⟨rfl, rfl⟩)⟩) v0 hv _ a (.inl rfl)
  exact h2 i hi ⟨_, reach, .inl rfl⟩
end PL

/-! M10: a way parted at the joins (k05). -/
namespace PL
open PySem L2
section
variable {α : Type} (f t : α → Int) (j : α → Bool)
def splitJ : List α → List (List α)
  | [] => [[]]
  | x :: F => if j x then [] :: splitJ F else match splitJ F with
    | [] => [[x]]
    | c :: cs => (x :: c) :: cs
def PathG (u e : Int) : List α → Prop
  | [] => u = e
  | x :: F => f x = u ∧ PathG (t x) e F
def endsJ (F : List α) : List Int := ((F.filter j).map fun x => [f x, t x]).flatten
def ChG : List (List α) → List Int → Prop
  | [], M => M = []
  | c :: cs, M => ∃ a b M', M = a :: b :: M' ∧ PathG f t a b c ∧ ChG cs M'
theorem split_ch : ∀ (F : List α) (u e : Int), PathG f t u e F → ∃ c cs b M, splitJ j F = c :: cs ∧ endsJ f t j F ++ [e] = b :: M ∧ PathG f t u b c ∧ ChG f t cs M
  | [], u, e, h => ⟨[], [], e, [], rfl, rfl, h, rfl⟩
  | x :: F, u, e, ⟨h1, h2⟩ => by
    obtain ⟨c, cs, b, M, e1, e2, p, q⟩ := split_ch F _ _ h2
    cases hj : j x with
    | true =>
      refine ⟨[], c :: cs, f x, t x :: b :: M, by unfold splitJ; rw [hj, if_pos rfl, e1], ?_, h1.symm, t x, b, M, rfl, p, q⟩
      unfold endsJ at e2 ⊢
      rw [List.filter_cons, hj]
      simp only [if_true]
      rw [List.map_cons, List.flatten_cons, List.append_assoc, e2]
      rfl
    | false =>
      refine ⟨x :: c, cs, b, M, by unfold splitJ; rw [hj, e1]; rfl, ?_, ⟨h1, p⟩, q⟩
      unfold endsJ at e2 ⊢
      rw [List.filter_cons, hj]
      exact e2
theorem split_flat : ∀ F : List α, (splitJ j F).flatten = F.filter fun x => !j x
  | [] => rfl
  | x :: F => by
    have ih := split_flat F
    unfold splitJ
    cases hj : j x with
    | true =>
      rw [if_pos rfl, List.flatten_cons, ih, List.filter_cons, hj]
      rfl
    | false =>
      rw [if_neg Bool.false_ne_true, List.filter_cons, hj]
      show (match splitJ j F with | [] => [[x]] | c :: cs => (x :: c) :: cs).flatten = x :: F.filter fun x => !j x
      rw [← ih]
      cases splitJ j F <;> rfl
theorem split_len : ∀ F : List α, (splitJ j F).length = (F.filter j).length + 1
  | [] => rfl
  | x :: F => by
    have ih := split_len F
    unfold splitJ
    cases hj : j x with
    | true => rw [if_pos rfl, List.length_cons, ih, List.filter_cons, hj]; rfl
    | false =>
      rw [if_neg Bool.false_ne_true, List.filter_cons, hj]
      show (match splitJ j F with | [] => [[x]] | c :: cs => (x :: c) :: cs).length = (F.filter j).length + 1
      rw [← ih]
      cases q : splitJ j F with
      | nil => rw [q] at ih; simp at ih
      | cons c cs => rfl
/-- parts with different ends -/
theorem ch_diff : ∀ {cs : List (List α)} {M : List Int}, ChG f t cs M → M.Nodup → ∀ c ∈ cs, ∃ a b, a ≠ b ∧ PathG f t a b c
  | [], _, _, _, c, h => absurd h (by simp)
  | d :: cs, _, ⟨a, b, M, rfl, p, q⟩, nd, c, h => by
    obtain ⟨n1, n2⟩ := List.nodup_cons.mp nd
    rcases List.mem_cons.mp h with z | z
    · subst z; exact ⟨a, b, fun e => n1 (by rw [e]; exact List.mem_cons_self), p⟩
    · exact ch_diff q (List.nodup_cons.mp n2).2 c z
theorem split_diff {F : List α} {u e : Int} (h : PathG f t u e F) (nd : (u :: (endsJ f t j F ++ [e])).Nodup) : ∀ c ∈ splitJ j F, ∃ a b, a ≠ b ∧ PathG f t a b c := fun c hc => by
  obtain ⟨c0, cs, b, M, e1, e2, p, q⟩ := split_ch f t j F u e h
  rw [e1] at hc
  rw [e2] at nd
  obtain ⟨n1, n2⟩ := List.nodup_cons.mp nd
  rcases List.mem_cons.mp hc with z | z
  · subst z; exact ⟨u, b, fun e => n1 (by rw [e]; exact List.mem_cons_self), p⟩
  · exact ch_diff f t q (List.nodup_cons.mp n2).2 c z
theorem path_first {a b : Int} {x : α} {c : List α} (h : PathG f t a b (x :: c)) : f x = a := h.1
theorem path_last : ∀ {c : List α} {a b : Int} (hc : c ≠ []), PathG f t a b c → t (c.getLast hc) = b
  | [], _, _, hc, _ => absurd rfl hc
  | [x], _, _, _, ⟨_, h⟩ => h
  | x :: y :: c, _, _, _, ⟨_, h⟩ => path_last (c := y :: c) (by simp) h
theorem path_link : ∀ {c : List α} {a b : Int}, PathG f t a b c → ∀ i x y, c[i]? = some x → c[i + 1]? = some y → t x = f y
  | [], _, _, _, i, x, y, h, _ => by simp at h
  | z :: c, _, _, ⟨_, h⟩, 0, x, y, h1, h2 => by
    have h1 : z = x := by simpa using h1
    subst h1
    cases c with
    | nil => simp at h2
    | cons w c =>
      have h2 : w = y := by simpa using h2
      subst h2
      exact h.1.symm
  | z :: c, _, _, ⟨_, h⟩, i + 1, x, y, h1, h2 => path_link h i x y (by simpa using h1) (by simpa using h2)
end
/-- the walk as a way -/
theorem path_G {R : List Rd} {e : Int} : ∀ {F : List (Nat × Int)}, PathW R e F → PathG (frm R) (too R) (tgtW R e F) e F
  | [], _ => rfl
  | x :: F, ⟨h1, h2⟩ => ⟨rfl, by
    have := path_G h2
    rw [← h1] at this
    exact this⟩
end PL

/-! M11: a group laid (k05). -/
namespace PL
open PySem L2
def isJ (R : List Rd) (x : Nat × Int) : Bool := decide ((rdAt R x.1).1 < 0)
def stepW (R : List Rd) (x : Nat × Int) : Int × Int := ((rdAt R x.1).1, x.2)
theorem perm_range {R : List Rd} {v0 e : Int} {F : List (Nat × Int)} (w : WInv R v0 e [] F) (all : ∀ i, i < R.length → i ∈ F.map Prod.fst) : (F.map fun x => rdAt R x.1).Perm R := by
  have nd : (F.map Prod.fst).Nodup := w.nd
  have p : (F.map Prod.fst).Perm (List.range R.length) := (List.perm_ext_iff_of_nodup nd List.nodup_range).mpr fun i => ⟨fun h => by
    obtain ⟨x, hx, rfl⟩ := List.mem_map.mp h
    exact List.mem_range.mpr (w.lt x (by simpa using hx)).1, fun h => all i (List.mem_range.mp h)⟩
  have q := p.map (rdAt R)
  rw [List.map_map] at q
  have e : (List.range R.length).map (rdAt R) = R := by
    apply List.ext_getElem?
    intro i
    rw [List.getElem?_map]
    by_cases h : i < R.length
    · rw [List.getElem?_range h, List.getElem?_eq_getElem h]
      show some (rdAt R i) = _
      unfold rdAt
      rw [List.getD_eq_getElem?_getD, List.getElem?_eq_getElem h]
      rfl
    · rw [List.getElem?_eq_none (by rw [List.length_range]; omega), List.getElem?_eq_none (by omega)]
      rfl
  rw [e] at q
  exact q
theorem map_filterJ {R : List Rd} (F : List (Nat × Int)) (p : Rd → Bool) : (F.filter fun x => p (rdAt R x.1)).map (fun x => rdAt R x.1) = (F.map fun x => rdAt R x.1).filter p := by
  rw [List.filter_map]
  rfl
theorem roads_joins {ss : List (Int × Int)} {g odd : List Int} (hg : ∀ i ∈ g, 0 ≤ i) : (roadsF ss g odd).filter (fun r => decide (r.1 < 0)) = joinsT odd.tail ∧ (roadsF ss g odd).filter (fun r => !decide (r.1 < 0)) = g.map fun i => (i, stAt ss i) := by
  have h1 : ∀ r ∈ g.map (fun i => (i, stAt ss i)), ¬ r.1 < 0 := fun r hr => by
    obtain ⟨i, hi, rfl⟩ := List.mem_map.mp hr
    have := hg i hi
    show ¬ i < 0
    omega
  have h2 : ∀ r ∈ joinsT odd.tail, r.1 < 0 := fun r hr => by rw [(joins_ends hr).1]; decide
  unfold roadsF
  rw [List.filter_append, List.filter_append]
  constructor
  · rw [List.filter_eq_nil_iff.mpr fun r hr => by simpa using h1 r hr, List.filter_eq_self.mpr fun r hr => decide_eq_true (h2 r hr)]
    rfl
  · rw [List.filter_eq_self.mpr fun r hr => by rw [decide_eq_false (h1 r hr)]; rfl, List.filter_eq_nil_iff.mpr fun r hr => by rw [decide_eq_true (h2 r hr)]; simp]
    exact List.append_nil _
theorem joins_flat : ∀ l : List Int, l.length % 2 = 1 → ((joinsT l).map fun r => [r.2.1, r.2.2]).flatten = l.dropLast
  | [], h => by simp at h
  | [a], _ => rfl
  | [a, b], h => by simp at h
  | a :: b :: c :: r, h => by
    have ih := joins_flat (c :: r) (by simp only [List.length_cons] at h ⊢; omega)
    show a :: b :: ((joinsT (c :: r)).map fun r => [r.2.1, r.2.2]).flatten = _
    rw [ih]
    rfl
theorem perm_two (R : List Rd) (x : Nat × Int) : [frm R x, too R x].Perm [(rdAt R x.1).2.1, (rdAt R x.1).2.2] := by
  unfold frm too turnF rdE
  split
  · exact .swap _ _ _
  · exact .refl _
theorem ends_perm (R : List Rd) : ∀ F : List (Nat × Int), ((F.map fun x => [frm R x, too R x]).flatten).Perm ((F.map fun x => rdAt R x.1).map fun r => [r.2.1, r.2.2]).flatten
  | [] => .refl _
  | x :: F => by
    rw [List.map_cons, List.flatten_cons, List.map_cons, List.map_cons, List.flatten_cons]
    exact (perm_two R x).append (ends_perm R F)
theorem flat_perm {α β : Type} (f : α → List β) {a b : List α} (h : a.Perm b) : (a.map f).flatten.Perm (b.map f).flatten := by
  induction h with
  | nil => exact .refl _
  | cons x _ ih => rw [List.map_cons, List.map_cons, List.flatten_cons, List.flatten_cons]; exact ih.append_left _
  | swap x y l =>
    rw [List.map_cons, List.map_cons, List.map_cons, List.map_cons, List.flatten_cons, List.flatten_cons, List.flatten_cons, List.flatten_cons, ← List.append_assoc, ← List.append_assoc]
    exact List.perm_append_comm.append_right _
  | trans _ _ h1 h2 => exact h1.trans h2
/-- the chains of a group -/
def partsF (ss : List (Int × Int)) (g odd : List Int) (v0 : Int) : List (List (Int × Int)) := (splitJ (isJ (roadsF ss g odd)) (walkF (roadsF ss g odd) v0)).map fun c => c.map (stepW (roadsF ss g odd))
structure PartsOk (ss : List (Int × Int)) (g : List Int) (cs : List (List (Int × Int))) : Prop where
  ch : ∀ c ∈ cs, ChainOk ss c
  pl : (cs.flatten.map Prod.fst).Perm g
  num : (cs.length : Int) = max 1 ((oddF ss g).length / 2 : Nat)
  cl : ∀ c ∈ cs, (lastF ss c = firstF ss c ↔ oddF ss g = [])
theorem parts_ok {ss : List (Int × Int)} {N g : List Int} (w : GrpW ss N g) (hne : g ≠ []) (ho : ∀ n ∈ oddF ss g, n ∈ N) (ev : (oddF ss g).length % 2 = 0) (v0 : Int) (hv : v0 = (oddF ss g).headD (stAt ss (g.headD 0)).1) : PartsOk ss g (partsF ss g (oddF ss g) v0) := by
  have g0 : ∀ i ∈ g, 0 ≤ i := fun i hi => ((w.pl i).mp hi).1.1
  obtain ⟨g1, gr, rfl⟩ : ∃ a b, g = a :: b := by
    cases g with
    | nil => exact absurd rfl hne
    | cons a b => exact ⟨a, b, rfl⟩
  generalize hs0 : (stAt ss ((g1 :: gr).headD 0)).1 = s0 at hv
  have s0N : s0 ∈ N := by rw [← hs0]; exact ((w.pl g1).mp (by simp)).2
  have v0N : v0 ∈ N := by
    rw [hv]
    cases q : oddF ss (g1 :: gr) with
    | nil => exact s0N
    | cons a b => exact ho a (by rw [q]; simp)
  have par := fun n => roads_par ev s0 n
  rw [← hv] at par
  generalize he : (oddF ss (g1 :: gr)).getLastD s0 = e at par
  have all := walk_all w ho v0N par
  obtain ⟨wi, h1, _⟩ := walk_is par
  have rj := roads_joins (ss := ss) (odd := oddF ss (g1 :: gr)) g0
  unfold partsF
  generalize hR : roadsF ss (g1 :: gr) (oddF ss (g1 :: gr)) = R at all wi h1 rj ⊢
  generalize hF : walkF R v0 = F at all wi h1 ⊢
  have pr := perm_range wi all
  have pg := path_G wi.path
  rw [← h1] at pg
  -- the stones among the roads
  have stone : ∀ x ∈ F, isJ R x = false → ∃ i ∈ (g1 :: gr), rdAt R x.1 = (i, stAt ss i) := fun x hx hj => by
    have m : rdAt R x.1 ∈ R.filter fun r => !decide (r.1 < 0) := List.mem_filter.mpr ⟨rdAt_mem (wi.lt x (by simpa using hx)).1, by
      have : decide ((rdAt R x.1).1 < 0) = false := hj
      rw [this]; rfl⟩
    rw [rj.2] at m
    obtain ⟨i, hi, e⟩ := List.mem_map.mp m
    exact ⟨i, hi, e.symm⟩
  have lies : ∀ x ∈ F, isJ R x = false → liesF ss (stepW R x) = (frm R x, too R x) := fun x hx hj => by
    obtain ⟨i, _, e⟩ := stone x hx hj
    unfold liesF stepW frm too
    rw [e]
    rfl
  have inF : ∀ c ∈ splitJ (isJ R) F, ∀ x ∈ c, x ∈ F ∧ isJ R x = false := fun c hc x hx => by
    have : x ∈ (splitJ (isJ R) F).flatten := List.mem_flatten.mpr ⟨c, hc, hx⟩
    rw [split_flat] at this
    obtain ⟨a, b⟩ := List.mem_filter.mp this
    exact ⟨a, by simpa using b⟩
  have jl : (F.filter (isJ R)).length = (joinsT (oddF ss (g1 :: gr)).tail).length := by
    rw [← rj.1, ← (pr.filter _).length_eq, ← map_filterJ, List.length_map]
    rfl
  -- each part is a way; which ends it has
  have ways : ∀ c ∈ splitJ (isJ R) F, c ≠ [] ∧ ∃ a b, (a = b ↔ oddF ss (g1 :: gr) = []) ∧ PathG (frm R) (too R) a b c := by
    cases q : oddF ss (g1 :: gr) with
    | nil =>
      rw [q] at jl hv he
      have nj : F.filter (isJ R) = [] := List.length_eq_zero_iff.mp (by rw [jl]; rfl)
      have e2 : endsJ (frm R) (too R) (isJ R) F = [] := by unfold endsJ; rw [nj]; rfl
      intro c hc
      obtain ⟨c0, cs, b, M, e1, e3, p, qq⟩ := split_ch (frm R) (too R) (isJ R) F v0 e pg
      have sl := split_len (isJ R) F
      rw [nj, e1] at sl
      have cs0 : cs = [] := by simpa using sl
      rw [e1, cs0, List.mem_singleton] at hc
      subst hc
      rw [e2] at e3
      have eb : e = b := by simpa using congrArg (fun l => l.headD 0) e3
      have ve : v0 = e := by rw [hv, ← he]; rfl
      refine ⟨fun z => ?_, v0, b, ⟨fun _ => rfl, fun _ => ve.trans eb⟩, p⟩
      have fl := split_flat (isJ R) F
      rw [e1, cs0, z] at fl
      have : F.filter (fun x => !isJ R x) = F := List.filter_eq_self.mpr fun x hx => by
        have := List.filter_eq_nil_iff.mp nj x hx
        simpa using this
      rw [this] at fl
      have hR0 : 0 < R.length := by
        rw [← hR]
        unfold roadsF
        simp
      have := all 0 hR0
      rw [← fl] at this
      simp at this
    | cons o rest =>
      rw [q] at ev hv he jl rj
      rw [List.length_cons] at ev
      have hr : rest.length % 2 = 1 := by omega
      have hne2 : rest ≠ [] := fun e => by rw [e] at hr; simp at hr
      have vo : v0 = o := hv
      have el : e = rest.getLast hne2 := by
        rw [← he, List.getLastD_eq_getLast?, List.getLast?_cons, List.getLast?_eq_some_getLast hne2]
        rfl
      have ep : (endsJ (frm R) (too R) (isJ R) F).Perm rest.dropLast := by
        unfold endsJ
        refine (ends_perm R _).trans ?_
        have e1 : (F.filter (isJ R)).map (fun x => rdAt R x.1) = (F.map fun x => rdAt R x.1).filter fun r => decide (r.1 < 0) := map_filterJ F (fun r => decide (r.1 < 0))
        rw [e1, ← joins_flat rest hr]
        have p2 := pr.filter (fun r => decide (r.1 < 0))
        rw [rj.1] at p2
        exact flat_perm _ p2
      have nd : (oddF ss (g1 :: gr)).Nodup := (isort_perm _).nodup_iff.mpr ((dd_nd _).filter _)
      rw [q] at nd
      have nd2 : (v0 :: (endsJ (frm R) (too R) (isJ R) F ++ [e])).Nodup := by
        have p3 : (v0 :: (endsJ (frm R) (too R) (isJ R) F ++ [e])).Perm (o :: rest) := by
          rw [vo, el]
          have e4 : rest = rest.dropLast ++ [rest.getLast hne2] := (List.dropLast_concat_getLast hne2).symm
          conv => rhs; rw [e4]
          exact (ep.append_right _).cons _
        exact p3.nodup_iff.mpr nd
      intro c hc
      obtain ⟨a, b, ab, p⟩ := split_diff (frm R) (too R) (isJ R) pg nd2 c hc
      exact ⟨fun z => by subst z; exact ab p, a, b, ⟨fun z => absurd z ab, fun z => by cases z⟩, p⟩
  have okc : ∀ c ∈ splitJ (isJ R) F, ChainOk ss (c.map (stepW R)) := fun c hc => by
    obtain ⟨ne, a, b, _, p⟩ := ways c hc
    refine ⟨fun z => ne (List.map_eq_nil_iff.mp z), fun s hs => ?_, fun i x y hx hy => ?_⟩
    · obtain ⟨x, hx, rfl⟩ := List.mem_map.mp hs
      obtain ⟨xF, xj⟩ := inF c hc x hx
      obtain ⟨i, hi, e⟩ := stone x xF xj
      have l := (wi.lt x (by simpa using xF)).2
      unfold stepW
      rw [e]
      exact ⟨((w.pl i).mp hi).1, l⟩
    · rw [List.getElem?_map, Option.map_eq_some_iff] at hx hy
      obtain ⟨x', hx', rfl⟩ := hx
      obtain ⟨y', hy', rfl⟩ := hy
      obtain ⟨xF, xj⟩ := inF c hc x' (List.mem_of_getElem? hx')
      obtain ⟨yF, yj⟩ := inF c hc y' (List.mem_of_getElem? hy')
      rw [lies x' xF xj, lies y' yF yj]
      exact path_link _ _ p i x' y' hx' hy'
  refine ⟨fun c hc => ?_, ?_, ?_, fun c hc => ?_⟩
  · obtain ⟨d, hd, rfl⟩ := List.mem_map.mp hc
    exact okc d hd
  · have e1 : ((splitJ (isJ R) F).map fun c => c.map (stepW R)).flatten = (splitJ (isJ R) F).flatten.map (stepW R) := by rw [List.map_flatten]
    rw [e1, split_flat, List.map_map]
    have e2 : (F.filter fun x => !isJ R x).map (Prod.fst ∘ stepW R) = ((F.filter fun x => !isJ R x).map fun x => rdAt R x.1).map Prod.fst := by rw [List.map_map]; rfl
    have e3 : (F.filter fun x => !isJ R x).map (fun x => rdAt R x.1) = (F.map fun x => rdAt R x.1).filter fun r => !decide (r.1 < 0) := map_filterJ F (fun r => !decide (r.1 < 0))
    rw [e2, e3]
    have p2 := (pr.filter (fun r => !decide (r.1 < 0))).map Prod.fst
    rw [rj.2, List.map_map] at p2
    have e4 : (g1 :: gr).map (Prod.fst ∘ fun i => (i, stAt ss i)) = g1 :: gr := by
      have : (Prod.fst ∘ fun i => (i, stAt ss i)) = id := rfl
      rw [this, List.map_id]
    rw [e4] at p2
    exact p2
  · rw [List.length_map, split_len, jl]
    cases q : oddF ss (g1 :: gr) with
    | nil => rfl
    | cons o rest =>
      rw [q] at ev
      rw [List.length_cons] at ev
      have jn := joins_len rest (by omega)
      have z : (joinsT rest).length + 1 = max 1 ((rest.length + 1) / 2) := by omega
      exact congrArg Nat.cast z
  · obtain ⟨d, hd, rfl⟩ := List.mem_map.mp hc
    obtain ⟨ne, a, b, ab, p⟩ := ways d hd
    rw [← ab]
    have hl : lastF ss (d.map (stepW R)) = b := by
      unfold lastF
      have lm := List.getLast_mem ne
      obtain ⟨xF, xj⟩ := inF d hd _ lm
      rw [List.getLastD_eq_getLast?, List.getLast?_map, List.getLast?_eq_some_getLast ne]
      show (liesF ss (stepW R (d.getLast ne))).2 = b
      rw [lies _ xF xj]
      exact path_last _ _ ne p
    have hf : firstF ss (d.map (stepW R)) = a := by
      unfold firstF
      cases d with
      | nil => exact absurd rfl ne
      | cons x d =>
        obtain ⟨xF, xj⟩ := inF _ hd x (by simp)
        show (liesF ss (stepW R x)).1 = a
        rw [lies x xF xj]
        exact p.1
    rw [hl, hf]
    exact eq_comm
end PL

/-! M12: all groups laid (k05). -/
namespace PL
open PySem L2
theorem cnt_cover {D : List Int} (nd : D.Nodup) : ∀ l : List Int, (∀ x ∈ l, x ∈ D) → (D.map fun n => l.count n).sum = l.length
  | [], _ => by
    have : ∀ D : List Int, (D.map fun n => ([] : List Int).count n).sum = 0 := by
      intro D
      induction D with
      | nil => rfl
      | cons a D ih => rw [List.map_cons, List.sum_cons, ih]; rfl
    exact this D
  | x :: l, h => by
    have ih := cnt_cover nd l fun y hy => h y (List.mem_cons_of_mem _ hy)
    have e : ∀ D : List Int, (D.map fun n => (x :: l).count n).sum = (D.map fun n => l.count n).sum + D.count x := by
      intro D
      induction D with
      | nil => rfl
      | cons a D ih =>
        rw [List.map_cons, List.sum_cons, ih, List.map_cons, List.sum_cons, List.count_cons, List.count_cons]
        by_cases c : x = a
        · subst c; simp; omega
        · have c2 : ¬ a = x := fun z => c z.symm
          simp [c, c2]; omega
    have h1 := List.nodup_iff_count.mp nd x
    have h2 := List.count_pos_iff.mpr (h x List.mem_cons_self)
    rw [e D, ih, List.length_cons]
    omega
theorem odd_sum (f : Int → Nat) : ∀ l : List Int, (l.map f).sum % 2 = (l.filter fun n => decide (f n % 2 = 1)).length % 2
  | [] => rfl
  | x :: l => by
    have ih := odd_sum f l
    rw [List.map_cons, List.sum_cons, List.filter_cons]
    by_cases c : f x % 2 = 1
    · rw [if_pos (decide_eq_true c), List.length_cons]; omega
    · rw [if_neg (by simpa using c)]; omega
theorem ends_two (ss : List (Int × Int)) : ∀ g : List Int, (endsF ss g).length = 2 * g.length
  | [] => rfl
  | i :: g => by
    have ih := ends_two ss g
    show (_ :: _ :: endsF ss g).length = _
    rw [List.length_cons, List.length_cons, List.length_cons, ih]
    omega
theorem odd_even (ss : List (Int × Int)) (g : List Int) : (oddF ss g).length % 2 = 0 := by
  unfold oddF
  rw [(isort_perm _).length_eq]
  have h1 := cnt_cover (dd_nd (endsF ss g)) (endsF ss g) fun x hx => dd_mem.mpr hx
  have h2 := odd_sum (fun n => (endsF ss g).count n) (dd (endsF ss g))
  have e : (dd (endsF ss g)).filter (oddB (endsF ss g)) = (dd (endsF ss g)).filter fun n => decide ((endsF ss g).count n % 2 = 1) := List.filter_congr fun n _ => by
    unfold oddB
    refine decide_eq_decide.mpr ?_
    omega
  rw [e, ← h2, h1, ends_two]
  omega
theorem grpW_of {ss : List (Int × Int)} {g : List Int} (h : g ∈ grpF ss) : ∃ N, GrpW ss N g ∧ g ≠ [] ∧ ∀ n ∈ oddF ss g, n ∈ N := by
  obtain ⟨ic, hn⟩ := found_ok ss ss.length
  obtain ⟨l, hl, e⟩ := List.mem_map.mp ((hsort_perm _).mem_iff.mp h)
  obtain ⟨a, ha, e2⟩ := List.mem_map.mp hl
  have eg : g = isort a.1 := by rw [← e, ← e2]
  have inF : a.1 ∈ (foundF ss ss.length).map Prod.fst := List.mem_map.mpr ⟨a, ha, rfl⟩
  have rng : ∀ i ∈ a.1, 0 ≤ i ∧ i < (ss.length : Int) := fun i hi => (ic.cover i).mp ⟨a.1, inF, hi⟩
  have at_ : ∀ s ∈ ss, ∃ j : Int, (0 ≤ j ∧ j < (ss.length : Int)) ∧ stAt ss j = s := fun s hs => by
    obtain ⟨j, hj, ej⟩ := List.mem_iff_getElem.mp hs
    refine ⟨(j : Int), ⟨by omega, by omega⟩, ?_⟩
    unfold stAt
    rw [Int.toNat_natCast, List.getD_eq_getElem?_getD, List.getElem?_eq_getElem hj]
    exact ej
  have key : ∀ j, 0 ≤ j → j < (ss.length : Int) → ∀ n, hasN ss j n → n ∈ a.2 → j ∈ a.1 := fun j h1 h2 n hj hm => by
    obtain ⟨i, hi, hin⟩ := (hn a ha n).mp hm
    exact ic.closed a.1 inF i hi j h1 h2 ⟨n, hin, hj⟩
  have mem2 : ∀ j ∈ a.1, ∀ n, hasN ss j n → n ∈ a.2 := fun j hj n h => (hn a ha n).mpr ⟨j, hj, h⟩
  refine ⟨a.2, ⟨fun s hs => ?_, fun S hS n hnn m hm hs => ?_, fun i => ?_⟩, fun z => ?_, fun n hno => ?_⟩
  · obtain ⟨j, ⟨h1, h2⟩, rfl⟩ := at_ s hs
    exact ⟨fun q => mem2 j (key j h1 h2 _ (.inl rfl) q) _ (.inr rfl), fun q => mem2 j (key j h1 h2 _ (.inr rfl) q) _ (.inl rfl)⟩
  · obtain ⟨i, hi, hin⟩ := (hn a ha n).mp hnn
    obtain ⟨j, hj, hjm⟩ := (hn a ha m).mp hm
    have Sof : ∀ i, 0 ≤ i → i < (ss.length : Int) → ∀ n, hasN ss i n → (S n ↔ S (stAt ss i).1) := fun i h1 h2 n hin => by
      rcases hin with q | q
      · rw [q]
      · rw [← q]; exact (hS _ (stAt_mem ⟨h1, h2⟩)).symm
    have go : Goes ss (ss.length : Int) fun i => S (stAt ss i).1 := fun i j h1 h2 h3 h4 ⟨n, x, y⟩ hsi => (Sof j h3 h4 n y).mp ((Sof i h1 h2 n x).mpr hsi)
    obtain ⟨r1, r2⟩ := rng i hi
    obtain ⟨r3, r4⟩ := rng j hj
    exact (Sof j r3 r4 m hjm).mpr (ic.conn a.1 inF _ go i hi j hj ((Sof i r1 r2 n hin).mp hs))
  · rw [eg, isort_mem]
    exact ⟨fun q => ⟨rng i q, mem2 i q _ (.inl rfl)⟩, fun ⟨⟨h1, h2⟩, q⟩ => key i h1 h2 _ (.inl rfl) q⟩
  · have := ic.ne a.1 inF
    rw [eg] at z
    exact isort_ne this z
  · have hc := odd_count ss g n
    have h1 := List.count_pos_iff.mpr hno
    have h2 : 0 < (endsF ss g).count n := by omega
    have h3 := List.count_pos_iff.mp h2
    rw [ends_mem] at h3
    obtain ⟨i, hi, hh⟩ := h3
    rw [eg, isort_mem] at hi
    exact mem2 i hi n hh
/-- where the walk of a group begins -/
def v0F (ss : List (Int × Int)) (g : List Int) : Int := (oddF ss g).headD (stAt ss (g.headD 0)).1
def laidG (ss : List (Int × Int)) (g : List Int) : List (List (Int × Int)) := partsF ss g (oddF ss g) (v0F ss g)
/-- what is laid -/
def laidF (ss : List (Int × Int)) : List (List (Int × Int)) := ((grpF ss).map (laidG ss)).flatten
theorem laidG_ok {ss : List (Int × Int)} {g : List Int} (h : g ∈ grpF ss) : PartsOk ss g (laidG ss g) := by
  obtain ⟨N, w, ne, ho⟩ := grpW_of h
  exact parts_ok w ne ho (odd_even ss g) _ rfl
theorem laid_lay (ss : List (Int × Int)) (hp : (grpF ss).flatten.Perm (upTo ss.length)) : LayOk ss (laidF ss) ∧ ((laidF ss).length : Int) = fewF ss := by
  have sub : ∀ gs : List (List Int), (∀ g ∈ gs, g ∈ grpF ss) → (∀ c ∈ (gs.map (laidG ss)).flatten, ChainOk ss c) ∧ (((gs.map (laidG ss)).flatten.flatten).map Prod.fst).Perm gs.flatten ∧ (((gs.map (laidG ss)).flatten.length : Nat) : Int) = (gs.map (needF ss)).sum := by
    intro gs
    induction gs with
    | nil => intro _; exact ⟨fun c hc => absurd hc (by simp), .refl _, rfl⟩
    | cons g gs ih =>
      intro hg
      obtain ⟨i1, i2, i3⟩ := ih fun x hx => hg x (List.mem_cons_of_mem _ hx)
      have ok := laidG_ok (hg g List.mem_cons_self)
      refine ⟨fun c hc => ?_, ?_, ?_⟩
      · rw [List.map_cons, List.flatten_cons] at hc
        exact (List.mem_append.mp hc).elim (ok.ch c) (i1 c)
      · rw [List.map_cons, List.flatten_cons, List.flatten_append, List.map_append, List.flatten_cons]
        exact ok.pl.append i2
      · rw [List.map_cons, List.flatten_cons, List.length_append, List.map_cons, List.sum_cons, ← i3]
        have n := ok.num
        show (((laidG ss g).length + _ : Nat) : Int) = needF ss g + _
        unfold needF
        omega
  obtain ⟨a, b, c⟩ := sub (grpF ss) fun _ h => h
  exact ⟨⟨a, b.trans hp⟩, c⟩
end PL

/-! M13: the chains of what is laid that begin in a group close just when it has no odd ends (k05). -/
namespace PL
open PySem L2
theorem flat_same : ∀ {L : List (List Int)}, L.flatten.Nodup → ∀ g ∈ L, ∀ g' ∈ L, ∀ i, i ∈ g → i ∈ g' → g = g'
  | [], _, g, hg, _, _, _, _, _ => absurd hg (by simp)
  | x :: L, nd, g, hg, g', hg', i, hi, hi' => by
    rw [List.flatten_cons, List.nodup_append] at nd
    obtain ⟨_, n2, n3⟩ := nd
    rcases List.mem_cons.mp hg with e | h1 <;> rcases List.mem_cons.mp hg' with e' | h2
    · rw [e, e']
    · exact absurd rfl (n3 i (e ▸ hi) i (List.mem_flatten.mpr ⟨g', h2, hi'⟩))
    · exact absurd rfl (n3 i (e' ▸ hi') i (List.mem_flatten.mpr ⟨g, h1, hi⟩))
    · exact flat_same n2 g h1 g' h2 i hi hi'
theorem laid_cl (ss : List (Int × Int)) (nd : (grpF ss).flatten.Nodup) {g : List Int} (hg : g ∈ grpF ss) {c : List (Int × Int)} (hc : c ∈ laidF ss) (h0 : (c.headD (0, 0)).1 ∈ g) : lastF ss c = firstF ss c ↔ oddF ss g = [] := by
  unfold laidF at hc
  obtain ⟨l, hl, hcl⟩ := List.mem_flatten.mp hc
  obtain ⟨g', hg', rfl⟩ := List.mem_map.mp hl
  have ok := laidG_ok hg'
  have ne := (ok.ch c hcl).ne
  have m : (c.headD (0, 0)).1 ∈ g' := by
    refine ok.pl.mem_iff.mp (List.mem_map.mpr ⟨c.headD (0, 0), List.mem_flatten.mpr ⟨c, hcl, ?_⟩, rfl⟩)
    cases c with
    | nil => exact absurd rfl ne
    | cons a b => exact List.mem_cons_self
  have e := flat_same nd g hg g' hg' _ h0 m
  subst e
  exact ok.cl c hcl
end PL

/-! M14: parted as the program does it, step by step (k05). -/
namespace PL
open PySem L2
def partS {α : Type} (j : α → Bool) (acc : List (List α)) (x : α) : List (List α) := if j x then acc ++ [[]] else acc.dropLast ++ [acc.getLastD [] ++ [x]]
theorem split_ne {α : Type} (j : α → Bool) : ∀ F : List α, ∃ c cs, splitJ j F = c :: cs
  | [] => ⟨[], [], rfl⟩
  | x :: F => by
    obtain ⟨c, cs, e⟩ := split_ne j F
    unfold splitJ
    by_cases h : j x = true
    · rw [if_pos h]; exact ⟨_, _, rfl⟩
    · rw [if_neg h, e]; exact ⟨_, _, rfl⟩
theorem part_fold {α : Type} (j : α → Bool) : ∀ (F : List α) (acc : List (List α)) (l c : List α) (cs : List (List α)), splitJ j F = c :: cs → F.foldl (partS j) (acc ++ [l]) = acc ++ (l ++ c) :: cs
  | [], acc, l, c, cs, h => by
    unfold splitJ at h
    injection h with h1 h2
    subst h1 h2
    simp
  | x :: F, acc, l, c, cs, h => by
    obtain ⟨c', cs', e⟩ := split_ne j F
    rw [List.foldl_cons]
    unfold splitJ at h
    by_cases hx : j x = true
    · rw [if_pos hx, e] at h
      injection h with h1 h2
      subst h1 h2
      have : partS j (acc ++ [l]) x = (acc ++ [l]) ++ [[]] := by unfold partS; rw [if_pos hx]
      rw [this, part_fold j F (acc ++ [l]) [] c' cs' e]
      simp
    · rw [if_neg hx, e] at h
      injection h with h1 h2
      subst h1 h2
      have : partS j (acc ++ [l]) x = acc ++ [l ++ [x]] := by
        unfold partS; rw [if_neg hx]; simp
      rw [this, part_fold j F acc (l ++ [x]) c' cs' e]
      simp
theorem part_is {α : Type} (j : α → Bool) (F : List α) : F.foldl (partS j) [[]] = splitJ j F := by
  obtain ⟨c, cs, e⟩ := split_ne j F
  have := part_fold j F [] [] c cs e
  rw [e]
  simpa using this
theorem split_map {α β : Type} (h : α → β) (j : α → Bool) (j' : β → Bool) (hj : ∀ x, j' (h x) = j x) : ∀ F : List α, splitJ j' (F.map h) = (splitJ j F).map fun c => c.map h
  | [] => rfl
  | x :: F => by
    have ih := split_map h j j' hj F
    obtain ⟨c, cs, e⟩ := split_ne j F
    rw [List.map_cons]
    unfold splitJ
    rw [ih, e, hj x]
    by_cases hx : j x = true
    · rw [if_pos hx, if_pos hx]; rfl
    · rw [if_neg hx, if_neg hx]; rfl
/-- the program parts the steps told -/
def negS (x : Int × Int) : Bool := decide (x.1 < 0)
theorem laidG_fold (ss : List (Int × Int)) (g : List Int) : ((walkF (roadsF ss g (oddF ss g)) (v0F ss g)).map (stepW (roadsF ss g (oddF ss g)))).foldl (partS negS) [[]] = laidG ss g := by
  rw [part_is, split_map (stepW (roadsF ss g (oddF ss g))) (isJ (roadsF ss g (oddF ss g))) negS fun _ => rfl]
  rfl
end PL

/-! M15: what waits at a number, and what next_at finds there (k05). -/
namespace PL
open PySem L2
def incL (c : Nat → Nat) (l : List Nat) : List Nat := (l.map fun i => List.replicate (c i) i).flatten
theorem rep_find (p : Nat → Bool) (i : Nat) : ∀ k, (List.replicate k i).find? p = if 0 < k ∧ p i = true then some i else none
  | 0 => by simp
  | k + 1 => by
    rw [List.replicate_succ, List.find?_cons]
    cases h : p i with
    | true => simp
    | false => rw [rep_find p i k]; simp [h]
theorem inc_find (c : Nat → Nat) (p : Nat → Bool) : ∀ l : List Nat, (incL c l).find? p = l.find? fun i => p i && decide (0 < c i)
  | [] => rfl
  | i :: l => by
    have ih := inc_find c p l
    show (List.replicate (c i) i ++ incL c l).find? p = _
    rw [List.find?_append, rep_find, ih, List.find?_cons]
    by_cases h1 : p i = true <;> by_cases h2 : 0 < c i <;> simp [h1, h2]
/-- the roads at a number, rising -/
def incF (R : List Rd) (n : Int) : List Nat := incL (fun i => cE n (rdE (rdAt R i))) (List.range R.length)
theorem cE_pos (n : Int) (r : Rd) : decide (0 < cE n (rdE r)) = (r.2.1 == n || r.2.2 == n) := by
  obtain ⟨x, a, b⟩ := r
  unfold cE rdE
  by_cases h1 : a = n <;> by_cases h2 : b = n <;> simp [h1, h2]
theorem next_inc (R : List Rd) (gone : List Nat) (n : Int) : (incF R n).find? (fun i => !gone.contains i) = nextF R gone n := by
  unfold incF nextF
  rw [inc_find]
  congr 1
  funext i
  rw [cE_pos]
/-- what is left waiting: an end of the list, all before it gone -/
def WaitOk (R : List Rd) (gone : List Nat) (n : Int) (l : List Nat) : Prop := ∃ pre, incF R n = pre ++ l ∧ ∀ i ∈ pre, i ∈ gone
theorem wait_start (R : List Rd) (n : Int) : WaitOk R [] n (incF R n) := ⟨[], rfl, fun _ h => absurd h (by simp)⟩
theorem WaitOk.mono {R : List Rd} {gone gone' : List Nat} {n : Int} {l : List Nat} (h : WaitOk R gone n l) (hg : ∀ i ∈ gone, i ∈ gone') : WaitOk R gone' n l := by
  obtain ⟨p, e, a⟩ := h
  exact ⟨p, e, fun i hi => hg i (a i hi)⟩
theorem WaitOk.pop {R : List Rd} {gone : List Nat} {n : Int} {i : Nat} {l : List Nat} (h : WaitOk R gone n (i :: l)) (hi : i ∈ gone) : WaitOk R gone n l := by
  obtain ⟨p, e, a⟩ := h
  refine ⟨p ++ [i], by rw [e]; simp, fun x hx => ?_⟩
  rcases List.mem_append.mp hx with h1 | h1
  · exact a x h1
  · rw [List.mem_singleton.mp h1]; exact hi
theorem pre_find {gone : List Nat} : ∀ {p l : List Nat}, (∀ i ∈ p, i ∈ gone) → (p ++ l).find? (fun i => !gone.contains i) = l.find? fun i => !gone.contains i
  | [], l, _ => rfl
  | a :: p, l, h => by
    rw [List.cons_append, List.find?_cons]
    have : gone.contains a = true := List.contains_iff_mem.mpr (h a List.mem_cons_self)
    rw [this]
    exact pre_find fun i hi => h i (List.mem_cons_of_mem _ hi)
theorem WaitOk.none {R : List Rd} {gone : List Nat} {n : Int} (h : WaitOk R gone n []) : nextF R gone n = none := by
  obtain ⟨p, e, a⟩ := h
  rw [← next_inc, e, pre_find a]; rfl
theorem WaitOk.some {R : List Rd} {gone : List Nat} {n : Int} {i : Nat} {l : List Nat} (h : WaitOk R gone n (i :: l)) (hi : ¬ i ∈ gone) : nextF R gone n = some i ∧ WaitOk R (i :: gone) n l := by
  refine ⟨?_, WaitOk.pop (h.mono fun _ => List.mem_cons_of_mem _) List.mem_cons_self⟩
  obtain ⟨p, e, a⟩ := h
  rw [← next_inc, e, pre_find a, List.find?_cons]
  have : gone.contains i = false := by
    cases hh : gone.contains i with
    | false => rfl
    | true => exact absurd (List.contains_iff_mem.mp hh) hi
  rw [this]; rfl
end PL

/-! M16: a state of the walk's loop (k05): S the steps below, F what is found. -/
namespace PL
open PySem L2
structure WalkSt (R : List Rd) (v0 : Int) (S F : List (Nat × Int)) : Prop where
  nd : ((S ++ F).map Prod.fst).Nodup
  lt : ∀ i ∈ (S ++ F).map Prod.fst, i < R.length
  go : ∃ k, k + 2 * F.length + S.length = 2 * R.length + 1 ∧ walkN R v0 k S F = walkF R v0
theorem WalkSt.start (R : List Rd) (v0 : Int) : WalkSt R v0 [] [] := ⟨by simp, fun _ h => absurd h (by simp), 2 * R.length + 1, by simp, rfl⟩
theorem WalkSt.len {R : List Rd} {v0 : Int} {S F : List (Nat × Int)} (h : WalkSt R v0 S F) : S.length + F.length ≤ R.length := by
  have := nodup_lt h.nd h.lt
  simpa using this
theorem WalkSt.fuel {R : List Rd} {v0 : Int} {S F : List (Nat × Int)} (h : WalkSt R v0 S F) : ∃ k, k + 1 + 2 * F.length + S.length = 2 * R.length + 1 ∧ walkN R v0 (k + 1) S F = walkF R v0 := by
  obtain ⟨k, e, w⟩ := h.go
  have := h.len
  cases k with
  | zero => omega
  | succ k => exact ⟨k, e, w⟩
theorem WalkSt.push {R : List Rd} {v0 : Int} {S F : List (Nat × Int)} (h : WalkSt R v0 S F) {i : Nat} (hi : nextF R ((S ++ F).map Prod.fst) (curW R v0 S) = some i) : WalkSt R v0 ((i, wayW R i (curW R v0 S)) :: S) F := by
  obtain ⟨n1, n2, _⟩ := next_ok hi
  obtain ⟨k, e, w⟩ := h.fuel
  refine ⟨?_, ?_, k, ?_, ?_⟩
  · rw [List.cons_append, List.map_cons]; exact List.nodup_cons.mpr ⟨n2, h.nd⟩
  · intro j hj
    rw [List.cons_append, List.map_cons] at hj
    rcases List.mem_cons.mp hj with q | q
    · rw [q]; exact n1
    · exact h.lt j q
  · simp only [List.length_cons]; omega
  · rw [← w]
    conv => rhs; unfold walkN
    rw [hi]
theorem WalkSt.pop {R : List Rd} {v0 : Int} {x : Nat × Int} {S F : List (Nat × Int)} (h : WalkSt R v0 (x :: S) F) (hi : nextF R ((x :: S ++ F).map Prod.fst) (curW R v0 (x :: S)) = none) : WalkSt R v0 S (x :: F) := by
  obtain ⟨k, e, w⟩ := h.fuel
  have p : ((S ++ x :: F).map Prod.fst).Perm ((x :: S ++ F).map Prod.fst) := by
    refine List.Perm.map _ ?_
    rw [List.cons_append]
    exact List.perm_middle
  refine ⟨p.nodup_iff.mpr h.nd, fun j hj => h.lt j (p.mem_iff.mp hj), k, ?_, ?_⟩
  · simp only [List.length_cons] at e ⊢; omega
  · rw [← w]
    conv => rhs; unfold walkN
    rw [hi]
theorem WalkSt.fin {R : List Rd} {v0 : Int} {F : List (Nat × Int)} (h : WalkSt R v0 [] F) (hi : nextF R ((([] : List (Nat × Int)) ++ F).map Prod.fst) (curW R v0 []) = none) : F = walkF R v0 := by
  obtain ⟨k, e, w⟩ := h.fuel
  rw [← w]
  unfold walkN
  rw [hi]
/-- how often the loop still goes round: falls at each turn -/
def walkM (R : List Rd) (S F : List (Nat × Int)) : Nat := 2 * R.length - 2 * F.length - S.length
end PL

/-! M17: the joins as the program counts them (k05). -/
namespace PL
open PySem L2
theorem joins_range : ∀ l : List Int, joinsT l = (List.range ((l.length - 1) / 2)).map fun k => (-1, l.getD (2 * k) 0, l.getD (2 * k + 1) 0)
  | [] => by simp [joinsT]
  | [_] => by simp [joinsT]
  | [_, _] => by simp [joinsT]
  | a :: b :: c :: r => by
    have ih := joins_range (c :: r)
    have e : ((a :: b :: c :: r).length - 1) / 2 = ((c :: r).length - 1) / 2 + 1 := by simp only [List.length_cons]; omega
    rw [e, List.range_succ_eq_map, List.map_cons, List.map_map]
    show (-1, a, b) :: joinsT (c :: r) = _
    rw [ih]
    rfl
/-- over odd itself: at = 1, 3 .. below its length less two -/
theorem joins_odd (odd : List Int) : joinsT odd.tail = (List.range ((odd.length - 2) / 2)).map fun k => (-1, odd.getD (1 + 2 * k) 0, odd.getD (1 + 2 * k + 1) 0) := by
  rw [joins_range]
  cases odd with
  | nil => rfl
  | cons a t =>
    have e : (a :: t).tail = t := rfl
    rw [e]
    have e2 : (a :: t).length - 2 = t.length - 1 := by simp only [List.length_cons]; omega
    rw [e2]
    refine List.map_congr_left fun k _ => ?_
    have h1 : (a :: t).getD (1 + 2 * k) 0 = t.getD (2 * k) 0 := by rw [Nat.add_comm 1]; rfl
    have h2 : (a :: t).getD (1 + 2 * k + 1) 0 = t.getD (2 * k + 1) 0 := by rw [Nat.add_comm 1]; rfl
    rw [h1, h2]
end PL

/-! R16: the class Roads: made, next_at, walk. -/
namespace PL
open PySem L2
def rdD (r : Rd) : D := .tuple [.int r.1, .int r.2.1, .int r.2.2]
def roadsD (R : List Rd) : List D := R.map rdD
def occB (R : List Rd) (n : Int) : Bool := R.any fun r => r.2.1 == n || r.2.2 == n
def natsI (l : List Nat) : List Int := l.map Int.ofNat
/-- what stands in the dict: the lists as the program keeps them, falling -/
def wF (R : List Rd) (W : Int → List Nat) : Int → Option (List Int) := fun n => if occB R n = true then some (natsI (W n).reverse) else none
def goB (R : List Rd) (go : List Nat) : List Bool := (List.range R.length).map fun i => go.contains i
def roadS (C p : Addr) (R : List Rd) (go : List Nat) (W : Int → List Nat) : Hp → Hp → V → Prop := roadB C p (roadsD R) (goB R go) (wF R W) (2 * R.length)
def restW (go : List Nat) : List Nat → List Nat
  | [] => []
  | i :: l => if go.contains i = true then restW go l else l
def foundW (go : List Nat) (l : List Nat) : Option Nat := l.find? fun i => !go.contains i
def goN (go : List Nat) : Option Nat → List Nat
  | some i => i :: go
  | none => go
def atN : Option Nat → Int
  | some i => (i : Int)
  | none => -1
def updW (W : Int → List Nat) (n : Int) (l : List Nat) : Int → List Nat := fun k => if k = n then l else W k
def R_R_init (C : Addr) (as as' : List Sl) (r : Sl) : Prop := ∃ p R, as = [.ob (insB C p), .d (.list (roadsD R))] ∧ R.length ≤ 1000 ∧ as' = [.ob (roadS C p R [] (incF R)), .no] ∧ r = .d .none
def sp_R_init (K : PySem.W.Frag) (C : Addr) : Sp := spM K (R_R_init C)
def R_R_next_at (C : Addr) (as as' : List Sl) (r : Sl) : Prop := ∃ p R go W n, as = [.ob (roadS C p R go W), .d (.int n)] ∧ occB R n = true ∧ (∀ i ∈ W n, i < R.length) ∧
  as' = [.ob (roadS C p R (goN go (foundW go (W n))) (updW W n (restW go (W n)))), .no] ∧ r = .d (.int (atN (foundW go (W n))))
def sp_R_next_at (K : PySem.W.Frag) (C : Addr) : Sp := spM K (R_R_next_at C)
def R_R_walk (C : Addr) (as as' : List Sl) (r : Sl) : Prop := ∃ p R v0, as = [.ob (roadS C p R [] (incF R)), .d (.int v0)] ∧ R.length ≤ 1000 ∧ occB R v0 = true ∧ as' = [.no, .no] ∧ r = .ow (((walkF R v0).map (stepW R)).map stD)
def sp_R_walk (K : PySem.W.Frag) (C : Addr) : Sp := spM K (R_R_walk C)
def t_R_init (K : PySem.W.Frag) (w : World) (cR : Addr) : TS :=
    (tSeq (sFld K (tVar 0) (tVar 1) "roads")
    (tSeq (sFld K (tVar 0) (tOp (rRep) (tLst (tCons (tC (.bl false)) tNil)) (tCB (cLen K) (tCons (tVar 1) tNil))) "gone")
    (tSeq (sFld K (tVar 0) tDNewK "waiting")
    (tFor (iEnum K (tCons (tVar 1) tNil)) (gTup K 2 (gCons (gName 2) (gCons (gName 3) gNil)))
    (tFor (iTup K (tSl (rSlA K) (tVar 3) (tPart (tC (.int 1))) tNoPart)) (gName 4)
    (sDPut (tFld K (tVar 0) "waiting") (tVar 4) (tOp (rCat) (tLst (tCons (tVar 2) tNil)) (tDGet2 (tFld K (tVar 0) "waiting") (tVar 4) (tLst tNil)))))))))

def t_R_next_at (K : PySem.W.Frag) (w : World) (cR : Addr) : TS :=
    (tSeq (tAsg (tDGet (tFld K (tVar 0) "waiting") (tVar 1)) (gName 2))
    (tSeq (tWhile (tTest (tOp (rNeD K) (tVar 2) (tLst tNil)))
    (tSeq (tAsg (tBM0 K "list" rPop (tVar 2)) (gName 3))
    (tIfS (tNot (tB (tOp (rIxL K) (tFld K (tVar 0) "gone") (tVar 3))))
    (tSeq (tAsg (tC (.bl true)) (gSub (tFld K (tVar 0) "gone") (tVar 3) rSetL))
    (tRet (tVar 3)))
    tNext)))
    (tRet (tUn (rU fun i => .int (-i)) (tC (.int 1))))))

def t_R_walk (K : PySem.W.Frag) (w : World) (cR : Addr) : TS :=
    (tSeq (tAsg (tLst tNil) (gName 2))
    (tSeq (tAsg (tLst (tCons (tTup (tCons (tVar 1) (tCons (tUn (rU fun i => .int (-i)) (tC (.int 1))) (tCons (tC (.int 0)) tNil)))) tNil)) (gName 3))
    (tSeq (tWhile (tTest (tOp (rNeD K) (tVar 3) (tLst tNil)))
    (tSeq (tAsg (tOp (rIxT K) (tOp (rIxL K) (tVar 3) (tUn (rU fun i => .int (-i)) (tC (.int 1)))) (tC (.int 0))) (gName 4))
    (tSeq (tAsg (tMeth cR "next_at" (sp_R_next_at K cR) [] E0 (tVar 0) (tCons (tVar 4) tNil)) (gName 5))
    (tIfS (tTest (tOp (rI0 fun i j => .bl (decide (i < j))) (tVar 5) (tC (.int 0))))
    (tDrop (tBM K "list" rAppend (tVar 2) (tCons (tSl (rSlA K) (tBM0 K "list" rPop (tVar 3)) (tPart (tC (.int 1))) tNoPart) tNil)))
    (tSeq (tAsg (tOp (rIxL K) (tFld K (tVar 0) "roads") (tVar 5)) (gTup K 3 (gCons (gName 6) (gCons (gName 7) (gCons (gName 8) gNil)))))
    (tSeq (tAsg (tCB (cInt) (tCons (tOp (rNe) (tVar 7) (tVar 4)) tNil)) (gName 9))
    (tDrop (tBM K "list" rAppend (tVar 3) (tCons (tTup (tCons (tOp (rIxL K) (tLst (tCons (tVar 8) (tCons (tVar 7) tNil))) (tVar 9)) (tCons (tVar 6) (tCons (tVar 9) tNil)))) tNil)))))))))
    (tRet (tRevL K (tSl (rSlL K) (tVar 2) tNoPart (tPart (tUn (rU fun i => .int (-i)) (tC (.int 1))))))))))

/-! ### plain -/
theorem inc_nil (c : Nat → Nat) : ∀ l : List Nat, incL c l = [] ↔ ∀ i ∈ l, c i = 0
  | [] => ⟨fun _ _ h => absurd h (by simp), fun _ => rfl⟩
  | i :: l => by
    have ih := inc_nil c l
    show List.replicate (c i) i ++ incL c l = [] ↔ _
    rw [List.append_eq_nil_iff, ih, List.replicate_eq_nil_iff]
    simp
theorem inc_len (c : Nat → Nat) (hc : ∀ i, c i ≤ 2) : ∀ l : List Nat, (incL c l).length ≤ 2 * l.length
  | [] => Nat.le_refl _
  | i :: l => by
    have ih := inc_len c hc l
    show (List.replicate (c i) i ++ incL c l).length ≤ _
    rw [List.length_append, List.length_replicate, List.length_cons]
    have := hc i
    omega
theorem inc_mem (c : Nat → Nat) {x : Nat} : ∀ l : List Nat, x ∈ incL c l → x ∈ l
  | [], h => by exact absurd h (by simp [incL])
  | i :: l, h => by
    have h : x ∈ List.replicate (c i) i ++ incL c l := h
    rcases List.mem_append.mp h with h | h
    · rw [(List.mem_replicate.mp h).2]; exact List.mem_cons_self
    · exact List.mem_cons_of_mem _ (inc_mem c l h)
theorem inc_snoc (c : Nat → Nat) (l : List Nat) (i : Nat) : incL c (l ++ [i]) = incL c l ++ List.replicate (c i) i := by
  unfold incL
  rw [List.map_append, List.flatten_append]
  simp
theorem cE_two (n : Int) (s : Int × Int) : cE n s ≤ 2 := by
  unfold cE
  split <;> split <;> omega
theorem occ_iff (R : List Rd) (n : Int) : occB R n = true ↔ ∃ i, i < R.length ∧ ((rdAt R i).2.1 = n ∨ (rdAt R i).2.2 = n) := by
  unfold occB
  rw [List.any_eq_true]
  refine ⟨fun ⟨r, hr, h⟩ => ?_, fun ⟨i, hi, h⟩ => ⟨rdAt R i, ?_, ?_⟩⟩
  · obtain ⟨i, hi, e⟩ := List.mem_iff_getElem.mp hr
    refine ⟨i, hi, ?_⟩
    have : rdAt R i = r := by unfold rdAt; rw [List.getD_eq_getElem?_getD, List.getElem?_eq_getElem hi, e]; rfl
    rw [this]
    simpa using h
  · unfold rdAt
    rw [List.getD_eq_getElem?_getD, List.getElem?_eq_getElem hi]
    exact List.getElem_mem hi
  · simpa using h
theorem occ_inc (R : List Rd) (n : Int) : occB R n = true ↔ incF R n ≠ [] := by
  rw [occ_iff]
  unfold incF
  rw [Ne, inc_nil]
  constructor
  · rintro ⟨i, hi, h⟩ z
    have := z i (List.mem_range.mpr hi)
    unfold cE rdE at this
    rcases h with h | h <;> simp [h] at this
  · intro z
    apply Classical.byContradiction
    intro q
    refine z fun i hi => ?_
    have : ¬ ((rdAt R i).2.1 = n ∨ (rdAt R i).2.2 = n) := fun h => q ⟨i, List.mem_range.mp hi, h⟩
    rw [not_or] at this
    unfold cE rdE
    rw [if_neg this.1, if_neg this.2]
/-- what waits when i roads are set down -/
def wI (R : List Rd) (i : Nat) (n : Int) : List Int := natsI (incL (fun k => cE n (rdE (rdAt R k))) (List.range i)).reverse
def optL (l : List Int) : Option (List Int) := if l = [] then none else some l
theorem optL_get (l : List Int) : (optL l).getD [] = l := by
  unfold optL
  by_cases h : l = [] <;> simp [h]
theorem wI_succ (R : List Rd) (i : Nat) (n : Int) : wI R (i + 1) n = List.replicate (cE n (rdE (rdAt R i))) (i : Int) ++ wI R i n := by
  unfold wI natsI
  rw [List.range_succ, inc_snoc, List.reverse_append, List.map_append, List.reverse_replicate, List.map_replicate]
  rfl
theorem wI_len (R : List Rd) (i : Nat) (n : Int) : (wI R i n).length ≤ 2 * i := by
  unfold wI natsI
  rw [List.length_map, List.length_reverse]
  have := inc_len (fun k => cE n (rdE (rdAt R k))) (fun k => cE_two n _) (List.range i)
  rwa [List.length_range] at this
def fI (R : List Rd) (i : Nat) : Int → Option (List Int) := fun n => optL (wI R i n)
theorem fI_step (R : List Rd) (i : Nat) (a b : Int) (h : rdE (rdAt R i) = (a, b)) : setW (setW (fI R i) a ((i : Int) :: (fI R i a).getD [])) b ((i : Int) :: (setW (fI R i) a ((i : Int) :: (fI R i a).getD []) b).getD []) = fI R (i + 1) := by
  funext n
  unfold setW fI
  rw [wI_succ, h]
  simp only [optL_get]
  unfold cE
  by_cases h1 : n = b
  · subst h1
    by_cases h2 : n = a
    · subst h2
      simp [optL, List.replicate]
    · have h3 : ¬ a = n := fun z => h2 z.symm
      simp [h2, h3, optL_get, optL, List.replicate]
      by_cases q : wI R i n = [] <;> simp [q]
  · have h1' : ¬ b = n := fun z => h1 z.symm
    by_cases h2 : n = a
    · subst h2
      simp [h1, h1', optL, List.replicate]
    · have h3 : ¬ a = n := fun z => h2 z.symm
      simp [h1, h1', h2, h3]
theorem fI_end (R : List Rd) : fI R R.length = wF R (incF R) := by
  funext n
  unfold fI wF optL wI
  have h := occ_inc R n
  have e : natsI (incL (fun k => cE n (rdE (rdAt R k))) (List.range R.length)).reverse = natsI (incF R n).reverse := rfl
  rw [e]
  by_cases q : occB R n = true
  · have := h.mp q
    rw [if_neg (by unfold natsI; simpa using this), if_pos q]
  · have : incF R n = [] := Classical.byContradiction fun z => q (h.mpr z)
    rw [if_pos (by rw [this]; rfl), if_neg q]
theorem goB_nil (R : List Rd) : goB R [] = List.replicate R.length false := by
  unfold goB
  apply List.ext_getElem
  · simp
  · intro i h1 h2; simp
theorem goB_get {R : List Rd} {go : List Nat} {i : Nat} (h : i < R.length) : (goB R go)[i]? = some (go.contains i) := by
  unfold goB
  rw [List.getElem?_map, List.getElem?_range h]; rfl
theorem goB_set {R : List Rd} {go : List Nat} {i : Nat} (h : i < R.length) : (goB R go).set i true = goB R (i :: go) := by
  apply List.ext_getElem?
  intro k
  unfold goB
  rw [List.getElem?_set, List.length_map, List.length_range, List.getElem?_map, List.getElem?_map]
  by_cases e : i = k
  · subst e
    rw [if_pos rfl, if_pos h, List.getElem?_range h]
    simp
  · rw [if_neg e]
    by_cases hk : k < R.length
    · rw [List.getElem?_range hk]
      have : ¬ k = i := fun z => e z.symm
      simp [this]
    · rw [List.getElem?_eq_none (by rw [List.length_range]; omega)]; rfl
theorem goB_congr {R : List Rd} {go go' : List Nat} (h : ∀ i, i ∈ go ↔ i ∈ go') : goB R go = goB R go' := by
  unfold goB
  refine List.map_congr_left fun i _ => ?_
  have := h i
  by_cases q : i ∈ go
  · rw [List.contains_iff_mem.mpr q, List.contains_iff_mem.mpr (this.mp q)]
  · have q' : ¬ i ∈ go' := fun z => q (this.mpr z)
    have e1 : go.contains i = false := by
      cases hh : go.contains i with
      | false => rfl
      | true => exact absurd (List.contains_iff_mem.mp hh) q
    have e2 : go'.contains i = false := by
      cases hh : go'.contains i with
      | false => rfl
      | true => exact absurd (List.contains_iff_mem.mp hh) q'
    rw [e1, e2]
theorem wF_set {R : List Rd} {W : Int → List Nat} {n : Int} (h : occB R n = true) (l : List Nat) : setW (wF R W) n (natsI l.reverse) = wF R (updW W n l) := by
  funext k
  unfold setW wF updW
  by_cases e : k = n
  · subst e; simp [h]
  · simp [e]
theorem wF_at {R : List Rd} {W : Int → List Nat} {n : Int} (h : occB R n = true) : wF R W n = some (natsI (W n).reverse) := by
  unfold wF; rw [if_pos h]
section
variable {E : Ent} {δ δ' : List Sl} {ta tb te tc : TE} {d x y : D} {w : World} {XE : XK} {mg : Str → Option Value} {cR p : Addr} {R : List Rd} {go : List Nat} {W : Int → List Nat} {n : Int}
theorem rd_at {i : Nat} (h : i < R.length) : (roadsD R)[i]? = some (rdD (rdAt R i)) := by
  unfold roadsD rdAt
  rw [List.getElem?_map, List.getElem?_eq_getElem h, List.getD_eq_getElem?_getD, List.getElem?_eq_getElem h]
  rfl
theorem xs_R_init (T : RoadT E.K mg cR) (hl : R.length ≤ 1000) : Xs E (t_R_init E.K w cR) (argSl [.ob (insB cR p), .d (.list (roadsD R))] 3) fun o => (∃ rest, o = .rm ([.ob (roadS cR p R [] (incF R)), .no] ++ rest) (.d .none)) ∨ (Sl.d .none = .d .none ∧ ∃ rest, o = .nx ([.ob (roadS cR p R [] (incF R)), .no] ++ rest)) := by
  refine xs_toM (pre := [.ob (roadS cR p R [] (incF R))]) (nos := [.no]) no1 ?_
  have len : (roadsD R).length = R.length := List.length_map _
  refine q_R_head T rfl rfl (by decide) (by rw [len]; omega) ?_
  rw [len]
  refine xs_for (ei_enum (xs := roadsD R) (ed_cons (ev_var rfl) ed_nil)) (fun i δ => ∃ s2 s3 s4, δ = [.ob (roadB cR p (roadsD R) (List.replicate R.length false) (fI R i) (2 * i)), .d (.list (roadsD R)), s2, s3, s4]) ⟨.no, .no, .no, ?_⟩ ?_ ?_
  · have e : fI R 0 = fun _ => none := by funext n; rfl
    rw [e]; rfl
  · rintro i x δ' hx ⟨s2, s3, s4, rfl⟩
    obtain ⟨hi, rfl⟩ : i < R.length ∧ x = .tuple [.int (i : Int), rdD (rdAt R i)] := by
      have lt : i < (roadsD R).length := by
        have := (List.getElem?_eq_some_iff.mp hx).1
        simpa [enumD] using this
      have hi : i < R.length := by rwa [len] at lt
      refine ⟨hi, ?_⟩
      have e1 := rd_at hi
      rw [List.getElem?_eq_getElem lt] at e1
      have e2 : (enumD (roadsD R))[i]? = some (.tuple [.int (i : Int), (roadsD R)[i]]) := by simp [enumD, List.getElem?_eq_getElem lt]
      rw [e2] at hx
      rw [← Option.some.inj hx, Option.some.inj e1]
    refine ⟨_, _, tg_two, ?_⟩
    refine xs_for (ei_tup (ev_slA1 (x := .int (rdAt R i).1) (xs := [.int (rdAt R i).2.1, .int (rdAt R i).2.2]) (ev_var rfl))) (fun j δ => ∃ s4, (j = 0 ∧ δ = [.ob (roadB cR p (roadsD R) (List.replicate R.length false) (fI R i) (2 * i)), .d (.list (roadsD R)), .d (.int (i : Int)), .d (rdD (rdAt R i)), s4]) ∨
      (j = 1 ∧ δ = [.ob (roadB cR p (roadsD R) (List.replicate R.length false) (setW (fI R i) (rdAt R i).2.1 ((i : Int) :: (fI R i (rdAt R i).2.1).getD [])) (2 * i + 1)), .d (.list (roadsD R)), .d (.int (i : Int)), .d (rdD (rdAt R i)), s4]) ∨
      (j = 2 ∧ δ = [.ob (roadB cR p (roadsD R) (List.replicate R.length false) (fI R (i + 1)) (2 * i + 1 + 1)), .d (.list (roadsD R)), .d (.int (i : Int)), .d (rdD (rdAt R i)), s4])) ⟨s4, .inl ⟨rfl, rfl⟩⟩ ?_ ?_
    · have wl : ∀ n l, fI R i n = some l → l.length ≤ 2 * i := fun n l h => by
        unfold fI optL at h
        split at h
        · cases h
        · cases h; exact wI_len R i n
      rintro j x δ' hx ⟨s4, ⟨rfl, rfl⟩ | ⟨rfl, rfl⟩ | ⟨rfl, rfl⟩⟩
      · cases hx
        refine ⟨_, _, tg_name, ?_⟩
        exact xs_waitPut (p := p) (R := roadsD R) (m := 2 * i) T rfl (ev_var rfl) (ev_var rfl) (by omega) (fun l h => by have := wl _ l h; omega) ⟨_, .inr (.inl ⟨rfl, rfl⟩)⟩
      · cases hx
        refine ⟨_, _, tg_name, ?_⟩
        refine xs_waitPut (p := p) (R := roadsD R) (m := 2 * i + 1) T rfl (ev_var rfl) (ev_var rfl) (by omega) (fun l h => ?_) ⟨.d (.int (rdAt R i).2.2), .inr (.inr ⟨rfl, ?_⟩)⟩
        · unfold setW at h
          split at h
          · cases h
            have := wI_len R i (rdAt R i).2.1
            unfold fI
            rw [optL_get, List.length_cons]; omega
          · have := wl _ l h; omega
        · rw [fI_step R i (rdAt R i).2.1 (rdAt R i).2.2 rfl]; rfl
      · cases hx
    · rintro δ' ⟨s4, ⟨h, _⟩ | ⟨h, _⟩ | ⟨_, rfl⟩⟩
      · cases h
      · cases h
      · exact ⟨_, _, _, rfl⟩
  · rintro δ' ⟨s2, s3, s4, rfl⟩
    have e : (enumD (roadsD R)).length = R.length := by simp [enumD, len]
    refine ⟨[.d (.list (roadsD R)), s2, s3, s4], by simp, .inr ⟨rfl, ?_⟩⟩
    rw [e, fI_end]
    unfold roadS
    rw [goB_nil]
    rfl
theorem rest_gone {i : Nat} {l : List Nat} (h : go.contains i = true) : restW go (i :: l) = restW go l ∧ foundW go (i :: l) = foundW go l := by
  unfold foundW
  rw [List.find?_cons, h]
  exact ⟨if_pos h, rfl⟩
theorem rest_new {i : Nat} {l : List Nat} (h : go.contains i = false) : restW go (i :: l) = l ∧ foundW go (i :: l) = some i := by
  unfold foundW
  rw [List.find?_cons, h]
  refine ⟨if_neg (by rw [h]; decide), rfl⟩
theorem shp_nats (l : List Nat) : SeqAt.shaped (.list ((natsI l).map .int)) = true := shp_ints _
theorem xs_R_next_at (T : RoadT E.K mg cR) (n : Int) (ho : occB R n = true) (hW : ∀ i ∈ W n, i < R.length) : Xs E (t_R_next_at E.K w cR) (argSl [.ob (roadS cR p R go W), .d (.int n)] 2) fun o => (∃ rest, o = .rm ([.ob (roadS cR p R (goN go (foundW go (W n))) (updW W n (restW go (W n)))), .no] ++ rest) (.d (.int (atN (foundW go (W n)))))) ∨ (Sl.d (.int (atN (foundW go (W n)))) = .d .none ∧ ∃ rest, o = .nx ([.ob (roadS cR p R (goN go (foundW go (W n))) (updW W n (restW go (W n)))), .no] ++ rest)) := by
  refine xs_toM (pre := [.ob (roadS cR p R (goN go (foundW go (W n))) (updW W n (restW go (W n))))]) (nos := [.no]) no1 ?_
  refine q_left (p := p) (R := roadsD R) (go := goB R go) (f := wF R W) (m := 2 * R.length) T rfl (ev_var rfl) (wF_at ho) fun a => ?_
  refine xs_seq (xs_while (fun m δ => ∃ l s3, m = l.length ∧ (∀ i ∈ l, i < R.length) ∧ restW go l = restW go (W n) ∧ foundW go l = foundW go (W n) ∧ δ = [.ob (roadX cR p (roadsD R) (goB R go) (wF R (updW W n l)) (2 * R.length) fun tf => tf n = some a), .d (.int n), .v (.ref a), s3]) (W n).length ⟨W n, .no, rfl, hW, rfl, rfl, ?_⟩ ?_)
  · have e : updW W n (W n) = W := by
      funext k; unfold updW
      by_cases h : k = n
      · rw [h, if_pos rfl]
      · rw [if_neg h]
    rw [e]; rfl
  · rintro m δ' ⟨l, s3, rfl, hl, e1, e2, rfl⟩
    have at_ : wF R (updW W n l) n = some (natsI l.reverse) := by rw [wF_at ho]; unfold updW; rw [if_pos rfl]
    refine ⟨_, et_test ((ev_neB0 (evB_left (i := 0) (C := cR) (p := p) (R := roadsD R) (go := goB R go) (f := wF R (updW W n l)) (m := 2 * R.length) (n := n) (a := a) rfl rfl at_) (shp_nats _))), fun hb => ?_, fun hb => ?_⟩
    · cases l with
      | nil => exact absurd hb (by simp [natsI])
      | cons i l =>
        have hi := hl i List.mem_cons_self
        have e3 : natsI (i :: l).reverse = natsI l.reverse ++ [(i : Int)] := by unfold natsI; rw [List.reverse_cons, List.map_append]; rfl
        refine q_asgM (evM_left (i := 0) (C := cR) (p := p) (R := roadsD R) (go := goB R go) (f := wF R (updW W n (i :: l))) (m := 2 * R.length) (n := n) (a := a) (l := natsI l.reverse) (x := (i : Int)) rfl rfl (by rw [at_, e3])) ?_
        rw [wF_set ho]
        have e4 : updW (updW W n (i :: l)) n l = updW W n l := by
          funext k; unfold updW
          by_cases h : k = n <;> simp [h]
        rw [e4]
        refine xs_if (b := !go.contains i) (et_not (et_B (ev_ixB (z := (i : Int)) (evB_gone (p := p) (R := roadsD R) (go := goB R go) (f := wF R (updW W n l)) (m := 2 * R.length) T rfl) (ev_var rfl) (atI_nat (j := i) (by rw [List.getElem?_map, goB_get hi]; rfl))))) (fun hg => ?_) (fun hg => ?_)
        · have hg : go.contains i = false := by simpa using hg
          obtain ⟨r1, r2⟩ := rest_new (l := l) hg
          refine xs_seq (xs_goneSet (p := p) (R := roadsD R) (go := goB R go) (f := wF R (updW W n l)) (m := 2 * R.length) (j := i) T rfl ev_bl (ev_var rfl) rfl (by unfold goB; simpa using hi) ?_)
          rw [goB_set hi]
          refine xs_weak (i := 0) (P' := roadS cR p R (goN go (foundW go (W n))) (updW W n (restW go (W n)))) rfl (fun G F v h G' e => ?_) ?_
          · obtain ⟨h1, q, g, w', ks, tf, t, _⟩ := h G' e
            rw [← e1, ← e2, r1, r2]
            exact ⟨h1, q, g, w', ks, tf, t, trivial⟩
          · refine xs_retR (Ev.toO (d := .int (i : Int)) (ev_var rfl)).toR ?_
            refine ⟨[.d (.int n), .v (.ref a), .d (.int (i : Int))], by simp, .inl ?_⟩
            rw [← e2, r2]; rfl
        · have hg : go.contains i = true := by simpa using hg
          obtain ⟨r1, r2⟩ := rest_gone (l := l) hg
          exact xs_next ⟨l.length, by simp, l, _, rfl, fun k hk => hl k (List.mem_cons_of_mem _ hk), by rw [← e1, r1], by rw [← e2, r2], rfl⟩
    · cases l with
      | cons i l => exact absurd hb (by simp [natsI])
      | nil =>
        refine xs_weak (i := 0) (P' := roadS cR p R (goN go (foundW go (W n))) (updW W n (restW go (W n)))) rfl (fun G F v h G' e => ?_) ?_
        · obtain ⟨h1, q, g, w', ks, tf, t, _⟩ := h G' e
          rw [← e1, ← e2]
          exact ⟨h1, q, g, w', ks, tf, t, trivial⟩
        · refine xs_retR (Ev.toO (d := .int (-1)) (ev_neg ev_int)).toR ?_
          refine ⟨[.d (.int n), .v (.ref a), s3], by simp, .inl ?_⟩
          rw [← e2]; rfl
end
end PL

/-! R17: the walk. -/
namespace PL
open PySem L2
theorem at_last {α : Type} (xs : List α) (d : α) : atI (xs ++ [d]) (-1) = some d := by
  unfold atI ixN
  rw [if_neg (by decide)]
  have e : (-1 + (((xs ++ [d]).length : Nat) : Int)).toNat = xs.length := by simp; omega
  have c : (0 : Int) ≤ -1 + (((xs ++ [d]).length : Nat) : Int) := by rw [List.length_append, List.length_singleton]; omega
  rw [if_pos (by omega), e]
  simp
theorem cut_last {α : Type} (xs : List α) (d : α) : cutD (xs ++ [d]) none (some (-1)) = xs := by
  unfold cutD
  have h1 : HT.sIx (xs ++ [d]).length 0 none = 0 := rfl
  have h2 : HT.sIx (xs ++ [d]).length (xs ++ [d]).length (some (-1)) = xs.length := by
    unfold HT.sIx
    simp
    try omega
  rw [h1, h2]
  simp
theorem found_next {R : List Rd} {go : List Nat} {n : Int} {l : List Nat} (h : WaitOk R go n l) : foundW go l = nextF R go n := by
  obtain ⟨p, e, a⟩ := h
  rw [← next_inc, e, pre_find a]
  rfl
theorem next_congr {R : List Rd} {go go' : List Nat} (n : Int) (h : ∀ i, i ∈ go ↔ i ∈ go') : nextF R go n = nextF R go' n := by
  unfold nextF
  have : ∀ i, go.contains i = go'.contains i := fun i => by
    cases q : go.contains i with
    | true => exact (List.contains_iff_mem.mpr ((h i).mp (List.contains_iff_mem.mp q))).symm
    | false =>
      cases q2 : go'.contains i with
      | false => rfl
      | true => rw [List.contains_iff_mem.mpr ((h i).mpr (List.contains_iff_mem.mp q2))] at q; cases q
  congr 1
  funext i
  rw [this i]
theorem rest_ok {R : List Rd} {go : List Nat} {n : Int} : ∀ {l : List Nat}, WaitOk R go n l → WaitOk R (goN go (foundW go l)) n (restW go l)
  | [], h => h
  | i :: l, h => by
    cases c : go.contains i with
    | true =>
      obtain ⟨r1, r2⟩ := rest_gone (go := go) (l := l) c
      rw [r1, r2]
      exact rest_ok (h.pop (List.contains_iff_mem.mp c))
    | false =>
      obtain ⟨r1, r2⟩ := rest_new (go := go) (l := l) c
      rw [r1, r2]
      exact (h.some fun z => by rw [List.contains_iff_mem.mpr z] at c; cases c).2
theorem goN_sub (go : List Nat) (o : Option Nat) : ∀ i ∈ go, i ∈ goN go o := fun i h => by
  cases o with
  | none => exact h
  | some j => exact List.mem_cons_of_mem _ h
theorem wait_lt {R : List Rd} {go : List Nat} {n : Int} {l : List Nat} (h : WaitOk R go n l) : ∀ i ∈ l, i < R.length := fun i hi => by
  obtain ⟨p, e, _⟩ := h
  have : i ∈ incF R n := by rw [e]; exact List.mem_append_right _ hi
  exact List.mem_range.mp (inc_mem _ _ this)
theorem wait_upd {R : List Rd} {go : List Nat} {W : Int → List Nat} (h : ∀ n, WaitOk R go n (W n)) (n : Int) : ∀ k, WaitOk R (goN go (foundW go (W n))) k (updW W n (restW go (W n)) k) := fun k => by
  unfold updW
  by_cases e : k = n
  · subst e; rw [if_pos rfl]; exact rest_ok (h k)
  · rw [if_neg e]; exact (h k).mono (goN_sub go _)
theorem occ_to {R : List Rd} {i : Nat} (h : i < R.length) (t : Int) : occB R (too R (i, t)) = true := by
  rw [occ_iff]
  refine ⟨i, h, ?_⟩
  unfold too turnF rdE
  by_cases c : t = 1
  · rw [if_pos c]; exact .inl rfl
  · rw [if_neg c]; exact .inr rfl
theorem occ_cur {R : List Rd} {v0 : Int} {S F : List (Nat × Int)} (w : WalkSt R v0 S F) (h : occB R v0 = true) : occB R (curW R v0 S) = true := by
  cases S with
  | nil => exact h
  | cons x S => exact occ_to (w.lt x.1 (by simp)) x.2
def st3 (R : List Rd) (x : Nat × Int) : D := .tuple [.int (too R x), .int (rdAt R x.1).1, .int x.2]
def base3 (v0 : Int) : D := .tuple [.int v0, .int (-1), .int 0]
def stepsL (R : List Rd) (v0 : Int) (S : List (Nat × Int)) : List D := (S.map (st3 R) ++ [base3 v0]).reverse
theorem steps_cons (R : List Rd) (v0 : Int) (x : Nat × Int) (S : List (Nat × Int)) : stepsL R v0 (x :: S) = stepsL R v0 S ++ [st3 R x] := by
  unfold stepsL
  rw [List.map_cons, List.cons_append, List.reverse_cons]
theorem steps_len (R : List Rd) (v0 : Int) (S : List (Nat × Int)) : (stepsL R v0 S).length = S.length + 1 := by
  unfold stepsL; simp
theorem steps_top (R : List Rd) (v0 : Int) (S : List (Nat × Int)) : ∃ l a b, stepsL R v0 S = l ++ [.tuple [.int (curW R v0 S), .int a, .int b]] := by
  cases S with
  | nil => exact ⟨[], -1, 0, rfl⟩
  | cons x S => exact ⟨stepsL R v0 S, _, _, steps_cons R v0 x S⟩
theorem canlay3 (a b c : Int) : (PyData.tuple [.int a, .int b, .int c]).canLay0 = true := by
  simp [PyData.canLay0, PyData.canLayAll0]
theorem shp_trip : ∀ l : List D, (∀ d ∈ l, ∃ a b c, d = .tuple [.int a, .int b, .int c]) → SeqAt.shaped (.list l) = true := fun l h => by
  have : ∀ l : List D, (∀ d ∈ l, ∃ a b c, d = .tuple [.int a, .int b, .int c]) → PyData.canLayAll0 l = true ∧ PyData.depthAll l ≤ 5 := by
    intro l
    induction l with
    | nil => intro _; exact ⟨rfl, Nat.zero_le _⟩
    | cons d l ih =>
      intro h
      obtain ⟨i1, i2⟩ := ih fun x hx => h x (List.mem_cons_of_mem _ hx)
      obtain ⟨a, b, c, rfl⟩ := h d List.mem_cons_self
      refine ⟨by rw [PyData.canLayAll0, i1, canlay3]; rfl, ?_⟩
      rw [PyData.depthAll]
      have : (PyData.tuple [.int a, .int b, .int c]).depth ≤ 5 := by simp [PyData.depth, PyData.depthAll]
      omega
  obtain ⟨a, b⟩ := this l h
  refine shp_of (by rw [PyData.canLay0]; exact a) ?_
  rw [PyData.depth]; omega
theorem shp_steps (R : List Rd) (v0 : Int) (S : List (Nat × Int)) : SeqAt.shaped (.list (stepsL R v0 S)) = true := shp_trip _ fun d hd => by
  unfold stepsL at hd
  rw [List.mem_reverse] at hd
  rcases List.mem_append.mp hd with h | h
  · obtain ⟨x, _, rfl⟩ := List.mem_map.mp h
    exact ⟨_, _, _, rfl⟩
  · rw [List.mem_singleton] at h
    exact ⟨_, _, _, h⟩
section
variable {E : Ent} {δ δ' : List Sl} {ta tb te tc : TE} {d x y : D} {w : World} {XE : XK} {mg : Str → Option Value} {cR p : Addr} {R : List Rd} {go : List Nat} {W : Int → List Nat} {n : Int}
theorem evB_own {i : Nat} {xs : List D} (h0 : δ[i]? = some (.ow xs)) : EvB E (tVar i) δ xs := fun σ G H Q s k => by
  obtain ⟨p, vs, ho, h1, h2, _, _⟩ := s.atOw h0
  exact ⟨.ref p, ho, k p vs G H (Gr.refl s.i) h1 h2⟩
theorem road_ins {C : Addr} {X : (Int → Option Addr) → Prop} {Rd' : List D} {gb : List Bool} {f : Int → Option (List Int)} {m' : Nat} {m : Str} (h1 : ¬ m = "roads") (h2 : ¬ m = "gone") (h3 : ¬ m = "waiting") : ∀ G F v, roadX C p Rd' gb f m' X G F v → ∃ a dx fs, v = .ref a ∧ F a = some (.ins C dx fs) ∧ fs.lookup m = none := fun G F v ⟨h, q, g, w, ks, tf, t, _⟩ => by
  obtain ⟨dx, h⟩ := t.ob
  exact ⟨p, dx, _, by assumption, h, rfs_no q g w h1 h2 h3⟩
theorem evR_next {i : Nat} (h0 : δ[i]? = some (.ob (roadS cR p R go W))) (ha : Ev E ta δ (.int n)) (ho : occB R n = true) (hW : ∀ i ∈ W n, i < R.length) :
    EvR E (tMeth cR "next_at" (sp_R_next_at E.K cR) [] XE (tVar i) (tCons ta tNil)) δ (δ.set i (.ob (roadS cR p R (goN go (foundW go (W n))) (updW W n (restW go (W n)))))) (.d (.int (atN (foundW go (W n))))) :=
  evR_methM (ds := [.int n]) h0 (road_ins (by decide +kernel) (by decide +kernel) (by decide +kernel)) (ed_cons ha ed_nil) ⟨p, R, go, W, n, rfl, ho, hW, rfl, rfl⟩ rfl
def foundL (R : List Rd) (F : List (Nat × Int)) : List D := ((F.map (stepW R)).map stD).reverse
theorem found_cons (R : List Rd) (x : Nat × Int) (F : List (Nat × Int)) : foundL R (x :: F) = foundL R F ++ [stD (stepW R x)] := by
  unfold foundL
  rw [List.map_cons, List.map_cons, List.reverse_cons]
theorem found_len (R : List Rd) (F : List (Nat × Int)) : (foundL R F).length = F.length := by unfold foundL; simp
theorem xs_R_walk (T : RoadT E.K mg cR) (v0 : Int) (hl : R.length ≤ 1000) (ho : occB R v0 = true) : Xs E (t_R_walk E.K w cR) (argSl [.ob (roadS cR p R [] (incF R)), .d (.int v0)] 8) fun o => (∃ rest, o = .rm ([.no, .no] ++ rest) (.ow (((walkF R v0).map (stepW R)).map stD))) ∨ (Sl.ow (((walkF R v0).map (stepW R)).map stD) = .d .none ∧ ∃ rest, o = .nx ([.no, .no] ++ rest)) := by
  refine xs_toM (pre := []) (nos := [.no, .no]) (fun t h => by simpa using h) ?_
  refine q_asgF (ds := []) (evF_lst ed_nil (by decide)) ?_
  refine q_asgF (ds := [base3 v0]) (evF_lst (ed_cons (ev_tup (ds := [.int v0, .int (-1), .int 0]) (ed_cons (ev_var rfl) (ed_cons (ev_neg ev_int) (ed_cons ev_int ed_nil))) (by show 3 ≤ 100000; decide)) ed_nil) (by show 1 ≤ 100000; decide)) ?_
  refine xs_seq (xs_while (fun m δ => (∃ S F go W s4 s5 s6 s7 s8 s9, m = walkM R S F + 1 ∧ WalkSt R v0 S F ∧ (∀ i, i ∈ go ↔ i ∈ (S ++ F).map Prod.fst) ∧ (∀ n, WaitOk R go n (W n)) ∧ δ = [.ob (roadS cR p R go W), .d (.int v0), .ow (foundL R F), .ow (stepsL R v0 S), s4, s5, s6, s7, s8, s9]) ∨
    (∃ go W s4 s5 s6 s7 s8 s9, m = 0 ∧ δ = [.ob (roadS cR p R go W), .d (.int v0), .ow (foundL R (walkF R v0) ++ [stD (-1, 0)]), .ow [], s4, s5, s6, s7, s8, s9])) (walkM R [] [] + 1) (.inl ⟨[], [], [], incF R, _, _, _, _, _, _, rfl, WalkSt.start R v0, fun i => by simp, fun n => wait_start R n, rfl⟩) ?_)
  rintro m δ' (⟨S, F, go, W, s4, s5, s6, s7, s8, s9, rfl, ws, hg, hw, rfl⟩ | ⟨go, W, s4, s5, s6, s7, s8, s9, rfl, rfl⟩)
  · have hlen := ws.len
    have hoc := occ_cur ws ho
    obtain ⟨l0, a0, b0, et⟩ := steps_top R v0 S
    refine ⟨true, (et_test (ev_neB0 (evB_own rfl) (shp_steps R v0 S))).is (by rw [et]; simp), fun _ => ?_, fun h => (nomatch h)⟩
    refine q_asg (d := .int (curW R v0 S)) (ev_ixT (xs := [.int (curW R v0 S), .int a0, .int b0]) (ev_ixB (evB_own rfl) (ev_neg ev_int) (by rw [et]; exact at_last _ _)) ev_int atI_0) ?_
    refine q_asgR (evR_next (n := curW R v0 S) rfl (ev_var rfl) hoc (wait_lt (hw _))) ?_
    have hf : foundW go (W (curW R v0 S)) = nextF R ((S ++ F).map Prod.fst) (curW R v0 S) := (found_next (hw _)).trans (next_congr _ hg)
    have hw' := wait_upd hw (curW R v0 S)
    cases hq : nextF R ((S ++ F).map Prod.fst) (curW R v0 S) with
    | none =>
      rw [hq] at hf
      rw [hf] at hw' ⊢
      refine xs_if (b := true) (et_test ((ev_lt (i := -1) (j := 0) (ev_var rfl) ev_int).is rfl)) (fun _ => ?_) (fun h => (nomatch h))
      cases S with
      | nil =>
        have ef := ws.fin hq
        refine xs_drop (evM_appendM (n := 2) (xs := foundL R F) (δ' := [.ob (roadS cR p R go (updW W v0 (restW go (W v0)))), .d (.int v0), .ow (foundL R F), .ow [], .d (.int v0), .d (.int (-1)), s6, s7, s8, s9]) rfl rfl (evM_slA1 (xs := [.int (-1), .int 0]) (evM_pop (n := 3) (xs := []) (d := base3 v0) rfl)) (by rw [found_len]; omega)) ?_
        refine ⟨0, by omega, .inr ⟨go, updW W v0 (restW go (W v0)), .d (.int v0), .d (.int (-1)), s6, s7, s8, s9, rfl, ?_⟩⟩
        rw [ef]; rfl
      | cons x S =>
        refine xs_drop (evM_appendM (n := 2) (xs := foundL R F) (δ' := [.ob (roadS cR p R go (updW W (too R x) (restW go (W (too R x))))), .d (.int v0), .ow (foundL R F), .ow (stepsL R v0 S), .d (.int (too R x)), .d (.int (-1)), s6, s7, s8, s9]) rfl rfl (evM_slA1 (x := .int (too R x)) (xs := [.int (rdAt R x.1).1, .int x.2]) (evM_pop (n := 3) (xs := stepsL R v0 S) (d := st3 R x) (by rw [← steps_cons]; rfl))) (by rw [found_len]; omega)) ?_
        refine ⟨walkM R S (x :: F) + 1, ?_, .inl ⟨S, x :: F, go, updW W (too R x) (restW go (W (too R x))), .d (.int (too R x)), .d (.int (-1)), s6, s7, s8, s9, rfl, ws.pop hq, fun i => ?_, hw', ?_⟩⟩
        · have := (ws.pop hq).len
          unfold walkM
          simp only [List.length_cons] at hlen this ⊢
          omega
        · rw [hg i]
          exact (List.Perm.map Prod.fst (List.perm_middle (a := x) (l₁ := S) (l₂ := F)).symm).mem_iff
        · rw [found_cons]; rfl
    | some i =>
      rw [hq] at hf
      rw [hf] at hw' ⊢
      obtain ⟨hi, hni, hri⟩ := next_ok hq
      refine xs_if (b := false) (et_test ((ev_lt (i := (i : Int)) (j := 0) (ev_var rfl) ev_int).is (by simp))) (fun h => (nomatch h)) (fun _ => ?_)
      refine xs_seq (xs_asgT (x := rdD (rdAt R i)) (ev_ixL (ev_roads (p := p) (R := roadsD R) (go := goB R (i :: go)) (f := wF R (updW W (curW R v0 S) (restW go (W (curW R v0 S))))) (m := 2 * R.length) T rfl) (ev_var rfl) (atI_nat (rd_at hi))) (tg_tup (tga_cons tg_name (tga_cons tg_name (tga_cons tg_name tga_nil))) rfl) ?_)
      have ew : (if (!decide ((rdAt R i).2.1 = curW R v0 S)) = true then (1 : Int) else 0) = wayW R i (curW R v0 S) := by
        unfold wayW
        by_cases c : (rdAt R i).2.1 = curW R v0 S <;> simp [c]
      refine q_asg (d := .int (wayW R i (curW R v0 S))) ((ev_intB (ev_neI (i := (rdAt R i).2.1) (j := curW R v0 S) (ev_var rfl) (ev_var rfl))).is (by rw [ew])) ?_
      have et2 : atI [PyData.int (rdAt R i).2.2, .int (rdAt R i).2.1] (wayW R i (curW R v0 S)) = some (.int (too R (i, wayW R i (curW R v0 S)))) := by
        unfold too turnF rdE
        unfold wayW
        by_cases c : (rdAt R i).2.1 = curW R v0 S
        · simp only [c, if_true]; rfl
        · simp only [c, if_false]; rfl
      have wp := ws.push hq
      have wpl := wp.len
      refine xs_drop (evM_append (n := 3) (xs := stepsL R v0 S) (d := st3 R (i, wayW R i (curW R v0 S))) rfl (ev_tup (ds := [.int (too R (i, wayW R i (curW R v0 S))), .int (rdAt R i).1, .int (wayW R i (curW R v0 S))]) (ed_cons (ev_ixL (ev_lst (ds := [.int (rdAt R i).2.2, .int (rdAt R i).2.1]) (ed_cons (ev_var rfl) (ed_cons (ev_var rfl) ed_nil)) (by show 2 ≤ 100000; decide)) (ev_var rfl) et2) (ed_cons (ev_var rfl) (ed_cons (ev_var rfl) ed_nil))) (by show 3 ≤ 100000; decide)) (by rw [steps_len]; omega)) ?_
      refine ⟨walkM R ((i, wayW R i (curW R v0 S)) :: S) F + 1, ?_, .inl ⟨(i, wayW R i (curW R v0 S)) :: S, F, i :: go, updW W (curW R v0 S) (restW go (W (curW R v0 S))), .d (.int (curW R v0 S)), .d (.int (i : Int)), .d (.int (rdAt R i).1), .d (.int (rdAt R i).2.1), .d (.int (rdAt R i).2.2), .d (.int (wayW R i (curW R v0 S))), rfl, wp, fun k => ?_, hw', ?_⟩⟩
      · unfold walkM
        simp only [List.length_cons] at wpl ⊢
        omega
      · rw [List.cons_append, List.map_cons, List.mem_cons, List.mem_cons, hg k]
      · rw [steps_cons]; rfl
  · refine ⟨false, (et_test (ev_neB0 (evB_own rfl) shp_nil)).is (by simp), fun h => (nomatch h), fun _ => ?_⟩
    have key : EvR E (tRevL E.K (tSl (rSlL E.K) (tVar 2) tNoPart (tPart (tUn (rU fun i => .int (-i)) (tC (.int 1)))))) [.ob (roadS cR p R go W), .d (.int v0), .ow (foundL R (walkF R v0) ++ [stD (-1, 0)]), .ow [], s4, s5, s6, s7, s8, s9] _ (.ow (cutD (foundL R (walkF R v0) ++ [stD (-1, 0)]) none (some (-1))).reverse) := (evF_revL (evF_slB (evB_own rfl) eo_no (eo_i (ev_neg ev_int))).ev).toO.toR
    have e : (cutD (foundL R (walkF R v0) ++ [stD (-1, 0)]) none (some (-1))).reverse = ((walkF R v0).map (stepW R)).map stD := by
      rw [cut_last]
      unfold foundL
      rw [List.reverse_reverse]
    rw [e] at key
    exact xs_retR key ⟨_, by simp, .inl rfl⟩
end
end PL

/-! R18: roads_of, parted, laid; copies of what is borrowed. -/
namespace PL
open PySem L2
def chD (lay : List (List (Int × Int))) : List (List D) := lay.map fun c => c.map stD
theorem chD_lay (lay : List (List (Int × Int))) : PyData.list ((chD lay).map .list) = layD lay := by
  unfold chD layD
  rw [List.map_map]; rfl
def R_roads_of (as : List Sl) (ds : List D) : Prop := ∃ ss g odd, as = [.d (stonesD ss), .d (intsL g), .d (intsL odd)] ∧ OkG ss g ∧ odd.length ≤ 200 ∧ ds = roadsD (roadsF ss g odd)
def sp_roads_of (K : PySem.W.Frag) : Sp := spF K R_roads_of
def R_parted (as : List Ar) (r : Sl) : Prop := ∃ st, as = [.a (.d (stonesD st))] ∧ st.length ≤ 1000 ∧ r = nest (chD (st.foldl (partS negS) [[]]))
def sp_parted (K : PySem.W.Frag) : Sp := spB K R_parted
def R_laid (as : List Ar) (r : Sl) : Prop := ∃ ss, as = [.a (.d (stonesD ss))] ∧ OkS ss ∧ r = nest (chD (laidF ss))
def sp_laid (K : PySem.W.Frag) (_ : Addr) : Sp := spB K R_laid
def R_copy5 : Nat → List Ar → Sl → Prop
  | 0, as, r => ∃ d, as = [.a (.d d)] ∧ isListD d = false ∧ r = .d d
  | 1, as, r => ∃ xs, as = [.b (listB xs)] ∧ (∀ x ∈ xs, isListD x = false) ∧ xs.length ≤ 1000 ∧ r = .ow xs
  | 2, as, r => ∃ xss, as = [.b (NestP xss)] ∧ (∀ xs ∈ xss, xs.length ≤ 1000 ∧ ∀ x ∈ xs, isListD x = false) ∧ xss.length ≤ 1000 ∧ r = nest xss
  | _, _, _ => False
def spD (K : PySem.W.Frag) : Nat → Sp
  | 0 => fun _ _ _ _ => False
  | n + 1 => spB K (R_copy5 n)
def t_roads_of (K : PySem.W.Frag) (w : World) : TS :=
    (tSeq (tAsg (tLc (iList K (tVar 1)) (gName 5) tYes (tTup (tCons (tVar 5) (tCons (tOp (rIxT K) (tOp (rIxL K) (tVar 0) (tVar 5)) (tC (.int 0))) (tCons (tOp (rIxT K) (tOp (rIxL K) (tVar 0) (tVar 5)) (tC (.int 1))) tNil)))) [5]) (gName 3))
    (tSeq (tFor (iRng3 (tCons (tC (.int 1)) (tCons (tOp (rI0 fun i j => .int (i - j)) (tCB (cLen K) (tCons (tVar 2) tNil)) (tC (.int 2))) (tCons (tC (.int 2)) tNil)))) (gName 4)
    (tDrop (tBM K "list" rAppend (tVar 3) (tCons (tTup (tCons (tUn (rU fun i => .int (-i)) (tC (.int 1))) (tCons (tOp (rIxL K) (tVar 2) (tVar 4)) (tCons (tOp (rIxL K) (tVar 2) (tOp (rI0 fun i j => .int (i + j)) (tVar 4) (tC (.int 1)))) tNil)))) tNil))))
    (tRet (tVar 3))))

def t_parted (K : PySem.W.Frag) (w : World) : TS :=
    (tSeq (tAsg (tLst (tCons (tLst tNil) tNil)) (gName 1))
    (tSeq (tFor (iList K (tVar 0)) (gName 2)
    (tIfS (tTest (tOp (rI0 fun i j => .bl (decide (i < j))) (tOp (rIxT K) (tVar 2) (tC (.int 0))) (tC (.int 0))))
    (tDrop (tBM K "list" rAppend (tVar 1) (tCons (tLst tNil) tNil)))
    (tDrop (tBM K "list" rAppend (tOp (rIxL K) (tVar 1) (tUn (rU fun i => .int (-i)) (tC (.int 1)))) (tCons (tVar 2) tNil)))))
    (tRet (tVar 1))))

def t_laid (K : PySem.W.Frag) (w : World) (cR : Addr) : TS :=
    (tSeq (tAsg (tLst tNil) (gName 1))
    (tSeq (tFor (iList K (tCall (sp_why K) [] E0 (tCons (tVar 0) tNil))) (gTup K 2 (gCons (gName 2) (gCons (gName 3) gNil)))
    (tSeq (tAsg (tIf (tTest (tOp (rNeD K) (tVar 3) (tLst tNil))) (tOp (rIxL K) (tVar 3) (tC (.int 0))) (tOp (rIxT K) (tOp (rIxL K) (tVar 0) (tOp (rIxL K) (tVar 2) (tC (.int 0)))) (tC (.int 0)))) (gName 4))
    (tDrop (tBM K "list" rExtend (tVar 1) (tCons (tCall (sp_parted K) [] E0 (tCons (tMeth cR "walk" (sp_R_walk K cR) [] E0 (tMake cR (sp_R_init K cR) [] E0 (tCons (tCall (sp_roads_of K) [] E0 (tCons (tVar 0) (tCons (tVar 2) (tCons (tVar 3) tNil)))) tNil)) (tCons (tVar 4) tNil)) tNil)) tNil)))))
    (tRet (tVar 1))))

theorem rangeC_size (n : Int) (hn : -1000 ≤ n ∧ n ≤ 1000) : RgC 1 n 2 (n / 2).toNat := by
  refine ⟨by decide, by decide, ?_, ?_⟩
  · have e : Builtin.Range.rangeSize 1 n 2 = if 1 < n then (n - 1 - 1) / 2 + 1 else 0 := by
      unfold Builtin.Range.rangeSize
      rw [if_pos (by decide)]
    unfold Builtin.Range.small
    rw [e]
    simp only [Builtin.Range.rangeFitsLong, Bool.and_eq_true, Bool.or_eq_true, decide_eq_true_eq, beq_iff_eq, show (2 : Int) > 0 by decide, if_true]
    split <;> omega
  · unfold Builtin.Range.rangeSize
    rw [if_pos (by decide)]
    by_cases h : 1 < n
    · rw [if_pos h]; omega
    · rw [if_neg h]; omega
section
variable {E : Ent} {δ δ' : List Sl} {ta tb te tc : TE} {d x y : D} {w : World} {XE : XK} {mg : Str → Option Value} {cR p : Addr} {ss : List (Int × Int)} {g odd : List Int}
theorem ei_range3 {ta : TA} {n : Int} (h : Ed E ta δ [.int 1, .int n, .int 2]) (hn : -1000 ≤ n ∧ n ≤ 1000) : EvI E (iRng3 ta) δ ((List.range (n / 2).toNat).map fun (k : Nat) => .int (1 + (k : Int) * 2)) := fun σ G H R s k => h σ G H _ s fun us G1 H1 g r => by
  obtain ⟨v, us', e1, e2, v2, us2, e3, e4, v3, us3, e5, e6, e7⟩ := r
  have e2 : v = .int 1 := e2
  have e4 : v2 = .int n := e4
  have e6 : v3 = .int 2 := e6
  have e7 : us3 = [] := e7
  subst e1 e2 e3 e4 e5 e6 e7
  refine ⟨1, n, 2, _, rfl, rangeC_size n hn, k _ G1 H1 g ?_⟩
  unfold WalkD
  rw [List.length_map, List.length_range]
  exact (walk_rangeC (lo := 1) (c := 2) (n := (n / 2).toNat)).mono (fun _ _ => trivial) fun i H v H' hi s y G' e1 e2 => by
    obtain ⟨e, hv⟩ := y
    subst e hv
    exact ⟨G', .int (1 + (i : Int) * 2), by rw [List.getElem?_map, List.getElem?_range hi]; rfl, Gr.refl e2, rfl⟩
theorem roads_len (ss : List (Int × Int)) (g odd : List Int) : (roadsF ss g odd).length ≤ g.length + odd.length := by
  unfold roadsF
  rw [List.length_append, List.length_map, joins_odd, List.length_map, List.length_range]
  omega
theorem evf_roads_of (ha : Ev E ta δ (stonesD ss)) (hb : Ev E tb δ (intsL g)) (hc : Ev E tc δ (intsL odd)) (h : OkG ss g) (hl : odd.length ≤ 200) : EvF E (tCall (sp_roads_of E.K) [] XE (tCons ta (tCons tb (tCons tc tNil)))) δ (roadsD (roadsF ss g odd)) :=
  evF_call (ea_d ha (ea_d hb (ea_d hc ea_nil))) ⟨ss, g, odd, rfl, h, hl, rfl⟩
theorem evO_parted {st : List (Int × Int)} (ha : Ev E ta δ (stonesD st)) (h : st.length ≤ 1000) : EvO E (tCall (sp_parted E.K) [] XE (tCons ta tNil)) δ (nest (chD (st.foldl (partS negS) [[]]))) :=
  evO_callB (eb_d ha eb_nil) (fun a ha => by rw [List.mem_singleton.mp ha]; exact trivial) ⟨st, rfl, h, rfl⟩ rfl
theorem evO_laid (ha : Ev E ta δ (stonesD ss)) (h : OkS ss) : EvO E (tCall (sp_laid E.K cR) [] XE (tCons ta tNil)) δ (nest (chD (laidF ss))) :=
  evO_callB (eb_d ha eb_nil) (fun a ha => by rw [List.mem_singleton.mp ha]; exact trivial) ⟨ss, rfl, h, rfl⟩ rfl
theorem xs_roads_of (ss : List (Int × Int)) (g odd : List Int) (h : OkG ss g) (hl : odd.length ≤ 200) : Xs E (t_roads_of E.K w) (argSl [.d (stonesD ss), .d (intsL g), .d (intsL odd)] 3) fun o => o = .rl (roadsD (roadsF ss g odd)) := by
  have key : EvF E (tLc (iList E.K (tVar 1)) (gName 5) tYes (tTup (tCons (tVar 5) (tCons (tOp (rIxT E.K) (tOp (rIxL E.K) (tVar 0) (tVar 5)) (tC (.int 0))) (tCons (tOp (rIxT E.K) (tOp (rIxL E.K) (tVar 0) (tVar 5)) (tC (.int 1))) tNil)))) [5]) (argSl [.d (stonesD ss), .d (intsL g), .d (intsL odd)] 3) (g.map fun i => rdD (i, stAt ss i)) :=
    evF_map g (fun i => .int i) (fun i => rdD (i, stAt ss i)) (EvI.c (ei_list (ev_var rfl))) (by have := h.len; omega) fun i hi => ⟨_, _, by simp, tg_name, ev_tup (ds := [.int i, .int (stAt ss i).1, .int (stAt ss i).2]) (ed_cons (ev_var rfl) (ed_cons (ev_st0 (ev_ixL (ev_var rfl) (ev_var rfl) (stD_get (h.mem i hi)))) (ed_cons (ev_st1 (ev_ixL (ev_var rfl) (ev_var rfl) (stD_get (h.mem i hi)))) ed_nil))) (by show 3 ≤ 100000; decide)⟩
  refine q_asgF key ?_
  have hlI : (odd.length : Int) ≤ 200 := by omega
  have ei := ei_range3 (E := E) (δ := [.d (stonesD ss), .d (intsL g), .d (intsL odd), .ow (g.map fun i => rdD (i, stAt ss i)), .no, .no]) (n := (odd.length : Int) - 2) (ta := tCons (tC (.int 1)) (tCons (tOp (rI0 fun i j => .int (i - j)) (tCB (cLen E.K) (tCons (tVar 2) tNil)) (tC (.int 2))) (tCons (tC (.int 2)) tNil)))
    (ed_cons ev_int (ed_cons ((ev_sub (i := (odd.length : Int)) (j := 2) ((ev_lenL (xs := odd.map .int) (ev_var rfl)).is (by rw [List.length_map])) ev_int)) (ed_cons ev_int ed_nil))) (by omega)
  have ec : (((odd.length : Int) - 2) / 2).toNat = (odd.length - 2) / 2 := by omega
  rw [ec] at ei
  refine xs_seq (xs_for ei (fun k δ => ∃ s4 s5, δ = [.d (stonesD ss), .d (intsL g), .d (intsL odd), .ow ((g.map fun i => rdD (i, stAt ss i)) ++ ((List.range k).map fun k => rdD (-1, odd.getD (1 + 2 * k) 0, odd.getD (1 + 2 * k + 1) 0))), s4, s5]) ⟨.no, .no, by simp; rfl⟩ ?_ ?_)
  · rintro k x δ' hx ⟨s4, s5, rfl⟩
    have hk : k < (odd.length - 2) / 2 := by
      have := (List.getElem?_eq_some_iff.mp hx).1
      simpa using this
    rw [List.getElem?_map, List.getElem?_range hk] at hx
    cases hx
    refine ⟨_, _, tg_name, ?_⟩
    have at1 : atI (odd.map PyData.int) (1 + (k : Int) * 2) = some (.int (odd.getD (1 + 2 * k) 0)) := by
      have e : (1 + (k : Int) * 2) = ((1 + 2 * k : Nat) : Int) := by omega
      rw [e]
      refine atI_nat ?_
      rw [List.getElem?_map, List.getD_eq_getElem?_getD, List.getElem?_eq_getElem (by omega)]; rfl
    have at2 : atI (odd.map PyData.int) (1 + (k : Int) * 2 + 1) = some (.int (odd.getD (1 + 2 * k + 1) 0)) := by
      have e : (1 + (k : Int) * 2 + 1) = ((1 + 2 * k + 1 : Nat) : Int) := by omega
      rw [e]
      refine atI_nat ?_
      rw [List.getElem?_map, List.getD_eq_getElem?_getD, List.getElem?_eq_getElem (by omega)]; rfl
    refine xs_drop (evM_append (n := 3) (d := rdD (-1, odd.getD (1 + 2 * k) 0, odd.getD (1 + 2 * k + 1) 0)) rfl (ev_tup (ds := [.int (-1), .int (odd.getD (1 + 2 * k) 0), .int (odd.getD (1 + 2 * k + 1) 0)]) (ed_cons (ev_neg ev_int) (ed_cons (ev_ixL (ev_var rfl) (ev_var rfl) at1) (ed_cons (ev_ixL (ev_var rfl) (ev_add (ev_var rfl) ev_int) at2) ed_nil))) (by show 3 ≤ 100000; decide)) (by
      have := h.len
      simp only [List.length_append, List.length_map, List.length_range]
      omega)) ⟨.d (.int (1 + (k : Int) * 2)), s5, ?_⟩
    rw [List.range_succ, List.map_append, List.map_singleton, List.append_assoc]
    rfl
  · rintro δ' ⟨s4, s5, rfl⟩
    refine xs_retO rfl ?_
    unfold roadsD roadsF
    rw [joins_odd, List.map_append, List.map_map, List.map_map, List.length_map, List.length_range]
    rfl
theorem part_snoc {α : Type} (j : α → Bool) (x : α) : ∀ acc : List (List α), acc ≠ [] → ∃ l c, acc = l ++ [c] ∧ partS j acc x = if j x then l ++ [c] ++ [[]] else l ++ [c ++ [x]] := fun acc h => by
  refine ⟨acc.dropLast, acc.getLast h, (List.dropLast_concat_getLast h).symm, ?_⟩
  unfold partS
  have e : acc.getLastD [] = acc.getLast h := by rw [List.getLastD_eq_getLast?, List.getLast?_eq_some_getLast h]; rfl
  rw [e, List.dropLast_concat_getLast h]
theorem xs_parted (st : List (Int × Int)) (hl : st.length ≤ 1000) : Xs E (t_parted E.K w) (argSl ([Ar.a (.d (stonesD st))].map (Ar.sl E.H)) 2) (RetB (nest (chD (st.foldl (partS negS) [[]])))) := by
  refine q_nest1 ?_
  refine xs_seq (xs_for (ei_list (xs := st.map stD) (ev_var rfl)) (fun i δ => (((st.take i).foldl (partS negS) [[]]) ≠ [] ∧ ((st.take i).foldl (partS negS) [[]]).length ≤ i + 1 ∧ ∀ c ∈ (st.take i).foldl (partS negS) [[]], c.length ≤ i) ∧ ∃ s2, δ = [.d (stonesD st), nest (chD ((st.take i).foldl (partS negS) [[]])), s2]) ⟨⟨by simp, by simp, by simp⟩, .no, rfl⟩ ?_ ?_)
  · rintro i x δ' hx ⟨⟨q1, q2, q3⟩, s2, rfl⟩
    obtain ⟨s, hs, rfl⟩ : ∃ s, st[i]? = some s ∧ x = stD s := by
      rw [List.getElem?_map] at hx
      cases q : st[i]? with
      | none => rw [q] at hx; cases hx
      | some n => rw [q] at hx; exact ⟨n, rfl, (Option.some.inj hx).symm⟩
    have lt := (List.getElem?_eq_some_iff.mp hs).1
    have tk : st.take (i + 1) = st.take i ++ [s] := by rw [List.take_succ, hs]; rfl
    have fo : (st.take (i + 1)).foldl (partS negS) [[]] = partS negS ((st.take i).foldl (partS negS) [[]]) s := by rw [tk, List.foldl_append]; rfl
    rw [fo]
    generalize (st.take i).foldl (partS negS) [[]] = acc at q1 q2 q3
    obtain ⟨l, c, ea, ep⟩ := part_snoc negS s acc q1
    rw [ep]
    refine ⟨_, _, tg_name, ?_⟩
    refine xs_if (b := negS s) (et_test (ev_lt (ev_st0 (ev_var rfl)) ev_int)) (fun hb => ?_) (fun hb => ?_)
    · rw [if_pos hb]
      refine xs_drop (evM_nestPush (xss := chD acc) (xs := []) rfl (evF_lst ed_nil (by decide)) (by unfold chD; rw [List.length_map]; omega)) ?_
      rw [← ea]
      refine ⟨⟨by simp, by rw [List.length_append]; simp; omega, fun c hc => ?_⟩, .d (stD s), ?_⟩
      · rcases List.mem_append.mp hc with h | h
        · have := q3 c h; omega
        · rw [List.mem_singleton.mp h]; simp
      · unfold chD; rw [List.map_append]; rfl
    · rw [if_neg (by rw [hb]; decide)]
      subst ea
      have ec : chD (l ++ [c]) = chD l ++ [c.map stD] := by unfold chD; rw [List.map_append]; rfl
      have ecl : (chD l).length = l.length := by unfold chD; rw [List.length_map]
      have cl := q3 c (by simp)
      refine xs_drop (evM_nestAppI (i := 1) (xss := chD (l ++ [c])) (z := -1) (j := l.length) (xs := c.map stD) (d := stD s) rfl (ev_neg ev_int) (fun ts ht => ?_) (by rw [ec]; simp [ecl]) (ev_var rfl) (by rw [List.length_map]; omega)) ?_
      · have hn : ts ≠ [] := fun z => by rw [z, ec] at ht; simp at ht
        have := List.dropLast_concat_getLast hn
        have hd : ts.dropLast.length = l.length := by rw [List.length_dropLast, ht, ec]; simp [ecl]
        rw [← this, at_last, ← hd, List.getElem?_append_right (Nat.le_refl _)]
        simp
      · refine ⟨⟨by simp, by simp at q2 ⊢; omega, fun c' hc' => ?_⟩, .d (stD s), ?_⟩
        · rcases List.mem_append.mp hc' with h | h
          · have := q3 c' (List.mem_append_left _ h); omega
          · rw [List.mem_singleton.mp h, List.length_append]; simp; omega
        · have e1 : (chD (l ++ [c])).set l.length (c.map stD ++ [stD s]) = chD (l ++ [c ++ [s]]) := by
            rw [ec]
            unfold chD
            rw [List.map_append, List.set_append_right _ _ (by rw [List.length_map]; exact Nat.le_refl _), List.length_map]
            simp
          rw [← e1]; rfl
  · rintro δ' ⟨_, s2, rfl⟩
    rw [List.length_map, List.take_length]
    exact xs_retR (evR_take rfl) rfl
theorem occ_start {ss : List (Int × Int)} {g : List Int} (hg : g ∈ grpF ss) : occB (roadsF ss g (oddF ss g)) (v0F ss g) = true := by
  obtain ⟨N, gw, ne, ho⟩ := grpW_of hg
  have : ∃ i ∈ g, hasN ss i (v0F ss g) := by
    unfold v0F
    cases e : oddF ss g with
    | nil =>
      cases g with
      | nil => exact absurd rfl ne
      | cons i r => exact ⟨i, List.mem_cons_self, .inl rfl⟩
    | cons n r =>
      have hno : n ∈ oddF ss g := by rw [e]; exact List.mem_cons_self
      have hc := odd_count ss g n
      have h1 := List.count_pos_iff.mpr hno
      have h2 : 0 < (endsF ss g).count n := by omega
      exact (ends_mem).mp (List.count_pos_iff.mp h2)
  obtain ⟨i, hi, hh⟩ := this
  unfold occB roadsF
  rw [List.any_append, List.any_map]
  have : (g.any ((fun r : Rd => r.2.1 == v0F ss g || r.2.2 == v0F ss g) ∘ fun i => (i, stAt ss i))) = true := by
    rw [List.any_eq_true]
    refine ⟨i, hi, ?_⟩
    show ((stAt ss i).1 == v0F ss g || (stAt ss i).2 == v0F ss g) = true
    rcases hh with h | h <;> simp [h]
  rw [this]; rfl
theorem walkN_len {R : List Rd} {v0 : Int} : ∀ (k : Nat) {S F : List (Nat × Int)}, ((S ++ F).map Prod.fst).Nodup → (∀ i ∈ (S ++ F).map Prod.fst, i < R.length) → (walkN R v0 k S F).length ≤ R.length
  | 0, S, F, nd, lt => by
    have := nodup_lt nd lt
    rw [List.length_map, List.length_append] at this
    unfold walkN; omega
  | k + 1, S, F, nd, lt => by
    unfold walkN
    cases hq : nextF R ((S ++ F).map Prod.fst) (curW R v0 S) with
    | some i =>
      obtain ⟨n1, n2, _⟩ := next_ok hq
      refine walkN_len k ?_ ?_
      · rw [List.cons_append, List.map_cons]; exact List.nodup_cons.mpr ⟨n2, nd⟩
      · intro j hj
        rw [List.cons_append, List.map_cons] at hj
        rcases List.mem_cons.mp hj with q | q
        · rw [q]; exact n1
        · exact lt j q
    | none =>
      cases S with
      | nil =>
        have := nodup_lt nd lt
        rw [List.length_map, List.length_append] at this
        exact Nat.le_trans (by simp) this
      | cons x S =>
        have p : ((S ++ x :: F).map Prod.fst).Perm ((x :: S ++ F).map Prod.fst) := List.Perm.map _ (by rw [List.cons_append]; exact List.perm_middle)
        exact walkN_len k (p.nodup_iff.mpr nd) fun j hj => lt j (p.mem_iff.mp hj)
theorem xs_laid (T : RoadT E.K mg cR) (ss : List (Int × Int)) (hs : OkS ss) : Xs E (t_laid E.K w cR) (argSl ([Ar.a (.d (stonesD ss))].map (Ar.sl E.H)) 4) (RetB (nest (chD (laidF ss)))) := by
  have gl := grp_len hs
  refine q_asgNest ?_
  refine xs_seq (xs_for (ei_list (evn_why (ss := ss) (ev_var rfl) hs).ev) (fun i δ => (((grpF ss).take i).map (laidG ss)).flatten.length ≤ i * 1000 ∧ ∃ s2 s3 s4, δ = [.d (stonesD ss), nest (chD (((grpF ss).take i).map (laidG ss)).flatten), s2, s3, s4]) ⟨by simp, .no, .no, .no, rfl⟩ ?_ ?_)
  · rintro i x δ' hx ⟨hb, s2, s3, s4, rfl⟩
    obtain ⟨g, hg, rfl⟩ : ∃ g, (grpF ss)[i]? = some g ∧ x = whyOf ss g := by
      rw [List.getElem?_map] at hx
      cases q : (grpF ss)[i]? with
      | none => rw [q] at hx; cases hx
      | some n => rw [q] at hx; exact ⟨n, rfl, (Option.some.inj hx).symm⟩
    have li := (List.getElem?_eq_some_iff.mp hg).1
    have gm : g ∈ grpF ss := List.mem_of_getElem? hg
    have gok := grp_ok hs gm
    have ol := odd_len ss g gok.len
    obtain ⟨N, gw, gne, _⟩ := grpW_of gm
    have tk : (grpF ss).take (i + 1) = (grpF ss).take i ++ [g] := by rw [List.take_succ, hg]; rfl
    refine ⟨_, _, tg_two, ?_⟩
    have rl : (roadsF ss g (oddF ss g)).length ≤ 1000 := by have := roads_len ss g (oddF ss g); have := gok.len; omega
    have wl : (walkF (roadsF ss g (oddF ss g)) (v0F ss g)).length ≤ 1000 := Nat.le_trans (walkN_len _ List.nodup_nil (fun i h => absurd h (by simp))) rl
    refine q_asg (d := .int (v0F ss g)) (ev_if (b := decide (oddF ss g ≠ [])) (et_test ((ev_neD (d1 := intsL (oddF ss g)) (d2 := .list []) (ev_var rfl) (ev_lst ed_nil (by decide)) (shp_ints _) shp_nil).is ?_)) (fun h => ?_) (fun h => ?_)) ?_
    · cases oddF ss g <;> simp [intsL, PyData.eqv, PyData.eqvAll]
    · have h : oddF ss g ≠ [] := by simpa using h
      obtain ⟨n, r, e⟩ := List.exists_cons_of_ne_nil h
      have hh : v0F ss g = n := by unfold v0F; rw [e]; rfl
      rw [hh]
      exact ev_ixL (xs := (oddF ss g).map .int) (ev_var rfl) ev_int (by rw [e]; exact atI_nat (j := 0) rfl)
    · have h : oddF ss g = [] := by simpa using h
      obtain ⟨n, r, e⟩ := List.exists_cons_of_ne_nil gne
      have hh : v0F ss g = (stAt ss n).1 := by unfold v0F; rw [h, e]; rfl
      rw [hh]
      exact ev_st0 (ev_ixL (ev_var rfl) (ev_ixL (xs := g.map .int) (ev_var rfl) ev_int (by rw [e]; exact atI_nat (j := 0) rfl)) (stD_get (gok.mem n (by rw [e]; exact List.mem_cons_self))))
    · have key := evO_methN (E := E) (C := cR) (XE := E0) (m := "walk") (R := R_R_walk cR) (P := fun p => roadS cR p (roadsF ss g (oddF ss g)) [] (incF (roadsF ss g (oddF ss g)))) (ds := [.int (v0F ss g)]) (δ := [.d (stonesD ss), nest (chD (((grpF ss).take i).map (laidG ss)).flatten), .d (intsL g), .d (intsL (oddF ss g)), .d (.int (v0F ss g))])
        (evO_make (XE := E0) (Ri := R_R_init cR) (ed_cons (evf_roads_of (XE := E0) (ss := ss) (g := g) (odd := oddF ss g) (ev_var (i := 0) rfl) (ev_var (i := 2) rfl) (ev_var (i := 3) rfl) gok (by omega)).ev ed_nil) fun p => ⟨p, _, rfl, rl, rfl, rfl⟩)
        (fun p G F h => by
          obtain ⟨_, q, g', w', ks, tf, t, _⟩ := h
          obtain ⟨dx, ob⟩ := t.ob
          exact ⟨dx, _, ob, rfs_no q g' w' (by decide +kernel) (by decide +kernel) (by decide +kernel)⟩)
        (ed_cons (ev_var (i := 4) rfl) ed_nil) (fun p => ⟨p, _, _, rfl, rl, occ_start gm, rfl, rfl⟩) rfl
      have e1 : (((walkF (roadsF ss g (oddF ss g)) (v0F ss g)).map (stepW (roadsF ss g (oddF ss g)))).foldl (partS negS) [[]]) = laidG ss g := laidG_fold ss g
      have e2 : chD (((grpF ss).take i).map (laidG ss)).flatten ++ chD (laidG ss g) = chD (((grpF ss).take (i + 1)).map (laidG ss)).flatten := by
        rw [tk, List.map_append, List.flatten_append]
        unfold chD
        rw [List.map_append]
        simp
      have gl2 : (laidG ss g).length ≤ 1000 := by
        have := (laidG_ok gm).num
        omega
      have ext := evM_nestExt (i := 1) (xss := chD (((grpF ss).take i).map (laidG ss)).flatten) rfl (evO_parted (XE := E0) key.f.ev (by rw [List.length_map]; exact wl)) (by
        rw [e1]
        unfold chD
        rw [List.length_map, List.length_map]
        omega)
      rw [e1] at ext
      refine xs_drop ext ⟨?_, .d (intsL g), .d (intsL (oddF ss g)), .d (.int (v0F ss g)), ?_⟩
      · rw [tk, List.map_append, List.flatten_append, List.length_append]
        simp only [List.map_cons, List.map_nil, List.flatten_cons, List.flatten_nil, List.append_nil]
        omega
      · rw [← e2]; rfl
  · rintro δ' ⟨_, s2, s3, s4, rfl⟩
    rw [List.length_map, List.take_length]
    exact xs_retR (evR_take rfl) rfl
/-! ### copies -/
theorem bor_list {xs : List D} {i : Nat} (h0 : δ[i]? = some (bor (listB xs) E.H)) : ∀ σ G H, St E δ σ G H → ∃ a vs, σ[i]? = some (some (.ref a)) ∧ H a = some (.lst vs) := fun σ G H s => by
  obtain ⟨v, ho, t, vs, e, h1, _⟩ := hasB_bor list_mono h0 σ G H s
  subst e
  exact ⟨t, vs, ho, h1⟩
theorem bor_nest {xss : List (List D)} {i : Nat} (h0 : δ[i]? = some (bor (NestP xss) E.H)) : ∀ σ G H, St E δ σ G H → ∃ a vs, σ[i]? = some (some (.ref a)) ∧ H a = some (.lst vs) := fun σ G H s => by
  obtain ⟨v, ho, t, ts, e, h1, _⟩ := hasB_bor nestP_mono h0 σ G H s
  subst e
  exact ⟨t, _, ho, h1⟩
theorem mono_a {d : D} : ∀ a ∈ [Ar.a (.d d)], a.mono := fun a ha => by rw [List.mem_singleton.mp ha]; exact trivial
theorem mono_l {xs : List D} : ∀ a ∈ [Ar.b (listB xs)], a.mono := fun a ha => by rw [List.mem_singleton.mp ha]; exact list_mono
theorem mono_n {xss : List (List D)} : ∀ a ∈ [Ar.b (NestP xss)], a.mono := fun a ha => by rw [List.mem_singleton.mp ha]; exact nestP_mono
theorem xs_copy5 (n : Nat) (as : List Ar) (r : Sl) (h : R_copy5 n as r) : Xs E (t_law_copy E.K w (spD E.K n)) (argSl (as.map (Ar.sl E.H)) (2 - as.length)) (RetB r) := by
  match n, h with
  | 0, ⟨d, ha, h1, hr⟩ =>
    subst ha hr
    exact q_when (b := false) (et_B ((ev_isi_list (ev_var rfl)).is (by rw [h1]))) (fun z => nomatch z) fun _ => xs_ret (ev_var rfl) rfl
  | 1, ⟨xs, ha, h1, h2, hr⟩ =>
    subst ha hr
    refine q_when (b := true) (et_B (ev_isiB (bor_list rfl))) (fun _ => ?_) fun z => nomatch z
    have key : EvF E (tLc (iList E.K (tVar 0)) (gName 1) tYes (tCall (spD E.K 1) [] E0 (tCons (tVar 1) tNil)) [1]) [bor (listB xs) E.H, .no] (xs.map id) :=
      evF_map xs id id (by rw [List.map_id]; exact eic_B (evB_list (hasB_bor list_mono rfl))) (by omega) fun a ha => ⟨_, _, by simp, tg_name, (evO_callB (R := R_copy5 0) (eb_d (ev_var rfl) eb_nil) mono_a ⟨a, rfl, h1 a ha, rfl⟩ rfl).ev⟩
    rw [List.map_id] at key
    exact xs_retR key.toO.toR rfl
  | 2, ⟨xss, ha, h1, h2, hr⟩ =>
    subst ha hr
    refine q_when (b := true) (et_B (ev_isiB (bor_nest rfl))) (fun _ => ?_) fun z => nomatch z
    have key : EvO E (tLc (iList E.K (tVar 0)) (gName 1) tYes (tCall (spD E.K 2) [] E0 (tCons (tVar 1) tNil)) [1]) [bor (NestP xss) E.H, .no] (nest (xss.map id)) :=
      evO_nestLc xss (fun row G v => listB row G E.H v) id (eip_nest rfl) (by omega) fun a ha => ⟨_, _, by simp, tgP_bor list_mono, (evO_callB (R := R_copy5 1) (eb_b list_mono (hasB_bor list_mono rfl) eb_nil) mono_l ⟨a, rfl, (h1 a ha).2, (h1 a ha).1, rfl⟩ rfl).f⟩
    rw [List.map_id] at key
    exact xs_retR key.toR rfl
end
end PL

/-! R19: whether a chain closes (k05). -/
namespace PL
open PySem L2
def R_law_closed (as : List Sl) (d : D) : Prop := ∃ ss c, as = [.d (stonesD ss), .d (stonesD c)] ∧ ChainOk ss c ∧ d = .bool (decide (lastF ss c = firstF ss c))
def sp_law_closed (K : PySem.W.Frag) : Sp := spR K R_law_closed
def t_law_closed (K : PySem.W.Frag) (w : World) : TS :=
    (tRet (tOp (rEq) (tOp (rIxT K) (tCall (sp_law_lies K) [] E0 (tCons (tVar 0) (tCons (tOp (rIxL K) (tVar 1) (tUn (rU fun i => .int (-i)) (tC (.int 1)))) tNil))) (tC (.int 1))) (tOp (rIxT K) (tCall (sp_law_lies K) [] E0 (tCons (tVar 0) (tCons (tOp (rIxL K) (tVar 1) (tC (.int 0))) tNil))) (tC (.int 0)))))
theorem head_mem5 {c : List (Int × Int)} (h : c ≠ []) : c.headD (0, 0) ∈ c := by
  cases c with
  | nil => exact absurd rfl h
  | cons a b => exact List.mem_cons_self
theorem head_at5 {c : List (Int × Int)} (h : c ≠ []) : atI (c.map stD) 0 = some (stD (c.headD (0, 0))) := by
  cases c with
  | nil => exact absurd rfl h
  | cons a b => exact atI_nat (j := 0) rfl
section
variable {E : Ent} {δ δ' : List Sl} {ta tb te tc : TE} {d x y : D} {w : World} {XE : XK}
theorem xs_law_closed (ss c : List (Int × Int)) (h : ChainOk ss c) : Xs E (t_law_closed E.K w) (argSl [.d (stonesD ss), .d (stonesD c)] 0) fun o => o = .rt (.bool (decide (lastF ss c = firstF ss c))) :=
  xs_ret (ev_eqI (ev_st1 (evc_law_lies (st := c.getLastD (0, 0)) (ev_var rfl) (ev_ixL (xs := c.map stD) (ev_var rfl) (ev_neg ev_int) (last_at h.ne)) (h.st _ (last_mem h.ne)))) (ev_st0 (evc_law_lies (st := c.headD (0, 0)) (ev_var rfl) (ev_ixL (xs := c.map stD) (ev_var rfl) ev_int (head_at5 h.ne)) (h.st _ (head_mem5 h.ne))))) rfl
theorem evc_law_closed {ss c : List (Int × Int)} (ha : Ev E ta δ (stonesD ss)) (hb : Ev E tb δ (stonesD c)) (h : ChainOk ss c) : Ev E (tCall (sp_law_closed E.K) [] XE (tCons ta (tCons tb tNil))) δ (.bool (decide (lastF ss c = firstF ss c))) := ev_call (ea_d ha (ea_d hb ea_nil)) ⟨ss, c, rfl, h, rfl⟩
end
end PL

/-! L05: the law of what is laid. -/
namespace PL
open PySem L2
def R_law_right (as : List Sl) (d : D) : Prop := ∃ ss, as = [.d (stonesD ss)] ∧ OkS ss ∧ d = .bool true
def sp_law_right (K : PySem.W.Frag) (_ : Addr) : Sp := spR K R_law_right
def t_law_right (K : PySem.W.Frag) (w : World) (cR : Addr) : TS :=
    (tSeq (tAsg (tCall (sp_laid K cR) [] E0 (tCons (tVar 0) tNil)) (gName 1))
    (tSeq (tIfS (tOr (tNot (tB (tCall (sp_law_is_laying K) [] E0 (tCons (tVar 0) (tCons (tVar 1) tNil))))) (tTest (tOp (rNe) (tCB (cLen K) (tCons (tVar 1) tNil)) (tCall (sp_law_fewest K) [] E0 (tCons (tVar 0) tNil)))))
    (tRet (tC (.bl false)))
    tNext)
    (tSeq (tFor (iList K (tCall (sp_law_groups K) [] E0 (tCons (tVar 0) tNil))) (gName 2)
    (tSeq (tAsg (tLc (iList K (tVar 1)) (gName 6) (tTest (tOp (rIn K false) (tOp (rIxT K) (tOp (rIxL K) (tVar 6) (tC (.int 0))) (tC (.int 0))) (tVar 2))) (tVar 6) [6]) (gName 3))
    (tSeq (tAsg (tOp (rEqD K) (tCall (sp_law_odd K) [] E0 (tCons (tVar 0) (tCons (tVar 2) tNil))) (tLst tNil)) (gName 4))
    (tIfS (tTest (tOp (rNeD K) (tLc (iList K (tVar 3)) (gName 6) (tTest (tOp (rNe) (tCall (sp_law_closed K) [] E0 (tCons (tVar 0) (tCons (tVar 6) tNil))) (tVar 4))) (tVar 6) [6]) (tLst tNil)))
    (tRet (tC (.bl false)))
    tNext))))
    (tSeq (tAsg (tCall (spD K 3) [] E0 (tCons (tVar 1) tNil)) (gName 5))
    (tSeq (tFor (iList K (tVar 1)) (gName 6)
    (tDrop (tBM K "list" rAppend (tVar 6) (tCons (tTup (tCons (tC (.int 0)) (tCons (tC (.int 0)) tNil))) tNil))))
    (tSeq (tDrop (tBM K "list" rAppend (tVar 1) (tCons (tLst tNil) tNil)))
    (tRet (tCall (spA K 5) [] E0 (tCons (tCall (sp_laid K cR) [] E0 (tCons (tVar 0) tNil)) (tCons (tVar 5) tNil))))))))))

def t_law05 (K : PySem.W.Frag) (w : World) (cR : Addr) : TS :=
    (tSeq (tAsg (tCall (sp_stones K) [] E0 (tCons (tVar 0) tNil)) (gName 1))
    (tSeq (tAsg (tCall (sp_cell K) [] E0 (tCons (tVar 0) (tCons (tC (.int 300)) tNil))) (gName 2))
    (tSeq (tAsg (tOp (rI (fun _ j => 0 < j) fun i j => .int (i % j)) (tVar 2) (tOp (rI0 fun i j => .int (i + j)) (tCB (cLen K) (tCons (tVar 1) tNil)) (tC (.int 1)))) (gName 3))
    (tSeq (tAsg (tOp (rCat) (tSl (rSlL K) (tVar 1) tNoPart (tPart (tVar 3))) (tSl (rSlL K) (tVar 1) (tPart (tOp (rI0 fun i j => .int (i + j)) (tOp (rI0 fun i j => .int (i + j)) (tVar 3) (tC (.int 1))) (tOp (rI (fun _ j => 0 < j) fun i j => .int (i % j)) (tOp (rI CDiv fun i j => .int (i / j)) (tVar 2) (tC (.int 100))) (tC (.int 9))))) tNoPart)) (gName 4))
    (tSeq (tAsg (tSl (rSlL K) (tOp (rCat) (tVar 4) (tVar 4)) tNoPart (tPart (tC (.int 60)))) (gName 5))
    (tRet (tAndV (tCall (sp_law_right K cR) [] E0 (tCons (tVar 1) tNil)) (tAndV (tCall (sp_law_right K cR) [] E0 (tCons (tVar 4) tNil)) (tAndV (tCall (sp_law_right K cR) [] E0 (tCons (tVar 5) tNil)) (tOp (rEqD K) (tCall (sp_laid K cR) [] E0 (tCons (tLst tNil) tNil)) (tLst tNil)))))))))))

def R_law (as : List Sl) (d : D) : Prop := ∃ ns, as = [.s ns] ∧ ns.length ≤ 63 ∧ d = .bool true
theorem grp_perm5 (ss : List (Int × Int)) : (grpF ss).flatten.Perm ((foundF ss ss.length).map Prod.fst).flatten := by
  have p1 : (grpF ss).flatten.Perm (((foundF ss ss.length).map Prod.fst).map isort).flatten := (hsort_perm _).flatten
  have key : ∀ l : List (List Int), (l.map isort).flatten.Perm l.flatten := by
    intro l
    induction l with
    | nil => exact .refl _
    | cons g l ih =>
      rw [List.map_cons, List.flatten_cons, List.flatten_cons]
      exact (isort_perm g).append ih
  exact p1.trans (key _)
theorem grp_nd5 (ss : List (Int × Int)) : (grpF ss).flatten.Nodup := by
  have co := (found_ok ss ss.length).1
  have nd : ((foundF ss ss.length).map Prod.fst).flatten.Nodup := by
    unfold List.Nodup
    rw [List.pairwise_flatten]
    refine ⟨fun l hl => co.nd l hl, co.dj.imp fun {a b} z x hx y hy e => ?_⟩
    subst e; exact z x hx hy
  exact (grp_perm5 ss).nodup_iff.mpr nd
theorem grp_all5 (ss : List (Int × Int)) : (grpF ss).flatten.Perm (upTo ss.length) := by
  have co := (found_ok ss ss.length).1
  have nd2 : (upTo ss.length).Nodup := by
    unfold upTo List.Nodup
    rw [List.pairwise_map]
    exact List.pairwise_lt_range.imp fun h => by omega
  refine (List.perm_ext_iff_of_nodup (grp_nd5 ss) nd2).mpr fun i => ?_
  rw [(grp_perm5 ss).mem_iff, List.mem_flatten, co.cover i]
  unfold upTo
  rw [List.mem_map]
  constructor
  · rintro ⟨a, b⟩
    exact ⟨i.toNat, List.mem_range.mpr (by omega), by omega⟩
  · rintro ⟨k, hk, rfl⟩
    have := List.mem_range.mp hk
    omega
theorem laidF_nil : laidF [] = [] := rfl
section
variable {E : Ent} {δ δ' : List Sl} {ta tb te tc : TE} {d x y : D} {w : World} {XE : XK} {mg : Str → Option Value} {cR p : Addr}
theorem evc_law_right {ss : List (Int × Int)} (ha : Ev E ta δ (stonesD ss)) (h : OkS ss) : Ev E (tCall (sp_law_right E.K cR) [] XE (tCons ta tNil)) δ (.bool true) := ev_call (ea_d ha ea_nil) ⟨ss, rfl, h, rfl⟩
theorem LL_nest {xss : List (List D)} {b : Nat} (hl : xss.length ≤ 1000) (hb : ∀ xs ∈ xss, xs.length ≤ b) (G F : Hp) (v : V) (h : NestP xss G F v) : ∃ x : Addr × List Addr, LL x.1 x.2 b F v := by
  obtain ⟨p, ts, e, h1, h2, h3⟩ := h
  refine ⟨(p, ts), e, h1, (List.nodup_cons.mp h2).1, (by show ts.length ≤ 1000; rw [h3.len]; exact hl), fun t ht => ?_⟩
  obtain ⟨j, hj⟩ := List.mem_iff_getElem?.mp ht
  have lt : j < xss.length := by rw [← h3.len]; exact (List.getElem?_eq_some_iff.mp hj).1
  obtain ⟨u, w, k1, k2, k3⟩ := h3.get (List.getElem?_eq_getElem lt)
  rw [hj] at k1; cases k1
  exact ⟨w, k2, by rw [k3.len]; exact hb _ (List.getElem_mem lt)⟩
theorem xs_law_right (ss : List (Int × Int)) (hs : OkS ss) : Xs E (t_law_right E.K w cR) (argSl [.d (stonesD ss)] 6) fun o => o = .rt (.bool true) := by
  have h60 := hs.len
  obtain ⟨lo, few⟩ := laid_lay ss (grp_all5 ss)
  have cl := fun {g : List Int} (hg : g ∈ grpF ss) {c : List (Int × Int)} (hc : c ∈ laidF ss) => laid_cl ss (grp_nd5 ss) hg hc
  obtain ⟨ll, lc⟩ := lay_len lo
  have oka : okA 4 (layD (laidF ss)) = true := okA_layD lo h60
  have cll : (chD (laidF ss)).length = (laidF ss).length := List.length_map _
  have clc : ∀ xs ∈ chD (laidF ss), xs.length ≤ 60 ∧ ∀ x ∈ xs, isListD x = false := fun xs hx => by
    obtain ⟨c, hc, rfl⟩ := List.mem_map.mp hx
    refine ⟨by rw [List.length_map]; have := lc c hc; omega, fun x hx => ?_⟩
    obtain ⟨s, _, rfl⟩ := List.mem_map.mp hx
    rfl
  refine q_asgR (evO_laid (ev_var rfl) hs).toR ?_
  show Xs E _ [.d (stonesD ss), nest (chD (laidF ss)), .no, .no, .no, .no, .no] _
  refine q_when (b := false) (Et.lendM (i := 1) (xss := chD (laidF ss)) rfl ?_) (fun z => nomatch z) fun _ => ?_
  · rw [chD_lay]
    refine (et_or (et_not (et_B (evc_law_is_laying (x := layD (laidF ss)) (ev_var rfl) (ev_var rfl) hs (.inl oka)))) fun _ => et_test (ev_neI (ev_lenL (xs := (laidF ss).map stonesD) (ev_var rfl)) (ev_law_fewest (ev_var rfl) hs))).is ?_
    rw [lay_ok lo, List.length_map, few]
    simp
  refine xs_seq (xs_for (ei_list (xs := (grpF ss).map intsL) (evf_law_groups (ev_var rfl) hs).ev) (fun i δ => ∃ s2 s3 s4 s5 s6, δ = [.d (stonesD ss), nest (chD (laidF ss)), s2, s3, s4, s5, s6]) ⟨_, _, _, _, _, rfl⟩ ?_ ?_)
  · rintro i x δ' hx ⟨s2, s3, s4, s5, s6, rfl⟩
    obtain ⟨g, hg, rfl⟩ : ∃ g, (grpF ss)[i]? = some g ∧ x = intsL g := by
      rw [List.getElem?_map] at hx
      cases q : (grpF ss)[i]? with
      | none => rw [q] at hx; cases hx
      | some n => rw [q] at hx; exact ⟨n, rfl, (Option.some.inj hx).symm⟩
    have gm : g ∈ grpF ss := List.mem_of_getElem? hg
    have gok := grp_ok hs gm
    refine ⟨_, _, tg_name, ?_⟩
    refine xs_lendM (i := 1) (j := 0) (xss := chD (laidF ss)) (x := stonesD ss) (by decide) rfl rfl (fun v v2 => ?_) ⟨.no, .no, .no, .no, .no, rfl⟩
    rw [chD_lay]
    show Xs E _ [pd v2 (stonesD ss), pd v (layD (laidF ss)), .d (intsL g), s3, s4, s5, s6] _
    have k1 : EvF E (tLc (iList E.K (tVar 1)) (gName 6) (tTest (tOp (rIn E.K false) (tOp (rIxT E.K) (tOp (rIxL E.K) (tVar 6) (tC (.int 0))) (tC (.int 0))) (tVar 2))) (tVar 6) [6]) [pd v2 (stonesD ss), pd v (layD (laidF ss)), .d (intsL g), s3, s4, s5, s6] (((laidF ss).filter fun c => decide ((c.headD (0, 0)).1 ∈ g)).map stonesD) :=
      evF_lc (laidF ss) stonesD (fun c => decide ((c.headD (0, 0)).1 ∈ g)) stonesD (EvI.c (ei_list (xs := (laidF ss).map stonesD) (ev_pd rfl))) (by omega) fun c hc => ⟨_, _, by simp, tg_name, et_test (ev_inL (ev_st0 (ev_ixL (xs := c.map stD) (ev_var rfl) ev_int (head_at5 (lo.ch c hc).ne))) (ev_var rfl)), fun _ => ev_var rfl⟩
    refine q_asgF k1 ?_
    refine q_asg (d := .bool (decide (oddF ss g = []))) ((ev_eqD (d1 := intsL (oddF ss g)) (d2 := .list []) (evf_law_odd (ss := ss) (g := g) (ev_pd (i := 0) rfl) (ev_var rfl) hs gok).ev (ev_lst ed_nil (by decide)) (shp_ints _) shp_nil).is ?_) ?_
    · cases oddF ss g <;> simp [intsL, PyData.eqv, PyData.eqvAll]
    have k2 : EvF E (tLc (iList E.K (tVar 3)) (gName 6) (tTest (tOp (rNe) (tCall (sp_law_closed E.K) [] E0 (tCons (tVar 0) (tCons (tVar 6) tNil))) (tVar 4))) (tVar 6) [6]) [pd v2 (stonesD ss), pd v (layD (laidF ss)), .d (intsL g), .ow (((laidF ss).filter fun c => decide ((c.headD (0, 0)).1 ∈ g)).map stonesD), .d (.bool (decide (oddF ss g = []))), s5, s6] ((((laidF ss).filter fun c => decide ((c.headD (0, 0)).1 ∈ g)).filter fun c => !(decide (lastF ss c = firstF ss c) == decide (oddF ss g = []))).map stonesD) :=
      evF_lc _ stonesD (fun c => !(decide (lastF ss c = firstF ss c) == decide (oddF ss g = []))) stonesD (eic_B (evB_own rfl)) (by
        have := List.length_filter_le (fun c => decide (((c : List (Int × Int)).headD (0, 0)).1 ∈ g)) (laidF ss)
        omega) fun c hc => ⟨_, _, by simp, tg_name, et_test (ev_neB (evc_law_closed (ev_pd (i := 0) rfl) (ev_var rfl) (lo.ch c (List.mem_filter.mp hc).1)) (ev_var rfl)), fun _ => ev_var rfl⟩
    have k3 : (((laidF ss).filter fun c => decide ((c.headD (0, 0)).1 ∈ g)).filter fun c => !(decide (lastF ss c = firstF ss c) == decide (oddF ss g = []))) = [] := by
      rw [List.filter_eq_nil_iff]
      intro c hc
      obtain ⟨hc1, hc2⟩ := List.mem_filter.mp hc
      have := cl gm hc1 (of_decide_eq_true hc2)
      simp [this]
    rw [k3] at k2
    exact xs_if (b := false) ((et_test (ev_neD (d1 := .list []) (d2 := .list []) k2.ev (ev_lst ed_nil (by decide)) shp_nil shp_nil)).is rfl) (fun z => nomatch z) fun _ => xs_next ⟨_, rfl, rfl, rfl, rfl⟩
  · rintro δ' ⟨s2, s3, s4, s5, s6, rfl⟩
    refine q_asgR (evO_callB (R := R_copy5 2) (eb_b nestP_mono (hasB_own (i := 1) nestP_mono rfl) eb_nil) mono_n ⟨chD (laidF ss), rfl, fun xs hx => ⟨by have := (clc xs hx).1; omega, (clc xs hx).2⟩, by omega, rfl⟩ rfl).toR ?_
    show Xs E _ [.d (stonesD ss), nest (chD (laidF ss)), s2, s3, s4, nest (chD (laidF ss)), s6] _
    refine xs_weak (i := 1) (P' := fun _ F v => ∃ x : Addr × List Addr, LL x.1 x.2 60 F v) rfl (fun G F v h G' e => LL_nest (by omega) (fun xs hx => (clc xs hx).1) _ F v (h G' e)) ?_
    refine xs_open (i := 1) (α := Addr × List Addr) (P := fun F v => ∃ x : Addr × List Addr, LL x.1 x.2 60 F v) (P' := fun x => LL x.1 x.2 60) rfl (fun F v h => h) fun ⟨p, ts⟩ => ?_
    by_cases hl : ts.length ≤ 1000
    · refine xs_seq (xs_forApp (i := 1) (j := 6) (p := p) (ts := ts) (b := 60) (by decide) (by show 6 < 7; decide) rfl (by decide) (fun δ' => ev_tup (ds := [.int 0, .int 0]) (ed_cons ev_int (ed_cons ev_int ed_nil)) (by show 2 ≤ 100000; decide)) (fun s => ?_) hl)
      refine q_drop (evM_appendTop (i := 1) (a := p) (P := LL p ts (60 + ts.length)) (P' := LL p ts (60 + ts.length)) rfl (ev_lst ed_nil (by decide)) fun F v z => ⟨z.1, _, z.2.1, by rw [List.length_map]; omega⟩) ?_
      refine xs_ret (d := .bool true) (Ev.lendM (i := 5) (xss := chD (laidF ss)) rfl ?_ rfl) rfl
      refine evc_alike (n := 4) (x := layD (laidF ss)) ((evO_laid (ev_var rfl) hs).nestEv.is (chD_lay _)) ?_ oka
      rw [chD_lay]
      exact ev_var rfl
    · intro σ G H X s pp
      obtain ⟨o, ho⟩ := s.here (i := 1) rfl
      obtain ⟨F, q⟩ := s.rg
      obtain ⟨v, e, hs⟩ := q.sl 1 _ o rfl ho
      exact absurd (hs G (Same.refl G)).2.2.2.1 hl
theorem xs_law05 (ns : List Int) (hz : ns.length ≤ 63) : Xs E (t_law05 E.K w cR) (argSl [.s ns] 5) fun o => o = .rt (.bool true) := by
  have ok := stonesF_ok ns
  have h60 := ok.len
  refine q_asg (evc_stones rfl hz) ?_
  refine q_asg (evc_cell rfl hz ev_int) ?_
  have c0 := (cellF_b ns 300).1
  generalize hc : cellF ns 300 = c at c0
  generalize stonesF ns = ss at ok h60
  obtain ⟨j, hj⟩ : ∃ j : Nat, c % ((ss.length : Int) + 1) = (j : Int) := ⟨_, (Int.toNat_of_nonneg (Int.emod_nonneg _ (by omega))).symm⟩
  obtain ⟨m, hm⟩ : ∃ m : Nat, c / 100 % 9 = (m : Int) := ⟨_, (Int.toNat_of_nonneg (Int.emod_nonneg _ (by omega))).symm⟩
  refine q_asg (d := .int (j : Int)) ((ev_mod (ev_var rfl) (ev_add (ev_lenSt (ev_var rfl)) ev_int) (by omega)).is (by rw [hj])) ?_
  have oks : OkS (ss.take j ++ ss.drop (j + 1 + m)) := ok.sub (by rw [List.length_append, List.length_take, List.length_drop]; omega) fun s hs => (List.mem_append.mp hs).elim List.mem_of_mem_take List.mem_of_mem_drop
  refine q_asg (d := stonesD (ss.take j ++ ss.drop (j + 1 + m))) (ev_catS (ev_takeS j (ev_var rfl) (ev_var rfl) rfl) (ev_dropS (j + 1 + m) (ev_var rfl) (ev_add (ev_add (ev_var rfl) ev_int) ((ev_mod (ev_fdiv (i := c) (j := 100) (ev_var rfl) ev_int ⟨by decide, by decide⟩) ev_int (by decide)).is (by rw [hm]))) (by omega)) (by rw [List.length_take, List.length_drop]; omega)) ?_
  have l2 := oks.len
  have okt : OkS (((ss.take j ++ ss.drop (j + 1 + m)) ++ (ss.take j ++ ss.drop (j + 1 + m))).take 60) := oks.sub (by rw [List.length_take]; omega) fun s hs => (List.mem_append.mp (List.mem_of_mem_take hs)).elim id id
  generalize ss.take j ++ ss.drop (j + 1 + m) = tt at oks l2 okt
  refine q_asg (ev_takeS 60 (ev_catS (ev_var rfl) (ev_var rfl) (by omega)) ev_int rfl) ?_
  refine xs_ret (d := .bool true) ((ev_andV (evc_law_right (ev_var rfl) ok) fun _ => ev_andV (evc_law_right (ev_var rfl) oks) fun _ => ev_andV (evc_law_right (ev_var rfl) okt) fun _ => ev_eqD (d1 := .list []) (d2 := .list []) ((evO_laid (ss := []) (ev_lst ed_nil (by decide)) ⟨by decide, fun _ h => nomatch h⟩).nestEv) (ev_lst ed_nil (by decide)) shp_nil shp_nil).is rfl) rfl
end
end PL

namespace PL
open PySem PySem.Spec PyProof.Rows L2
def top (i : Nat) : Stmt := PySem.Challenge.pw_stonerow_k05_whole_laid.main.body.getD i (.Pass ⟨0, 0, 0, 0⟩)
structure Bl (mg : Str → Option Value) where
  b_all : mg "all" = none
  b_bool : mg "bool" = none
  b_enumerate : mg "enumerate" = none
  b_int : mg "int" = none
  b_isinstance : mg "isinstance" = none
  b_len : mg "len" = none
  b_list : mg "list" = none
  b_max : mg "max" = none
  b_min : mg "min" = none
  b_range : mg "range" = none
  b_set : mg "set" = none
  b_sorted : mg "sorted" = none
  b_tuple : mg "tuple" = none
  t_MOST_STONES : Tok
  c_MOST_STONES : mg "MOST_STONES" = some (.int 60 t_MOST_STONES)
  t_MOST_NUMBER : Tok
  c_MOST_NUMBER : mg "MOST_NUMBER" = some (.int 999999 t_MOST_NUMBER)
abbrev s_is_whole : Stmt := top 6
abbrev n_is_whole : List Str := ["thing"]
theorem sc_is_whole : FnScope n_is_whole ["thing"] (defScope s_is_whole) := ⟨rfl, rfl, rfl, by decide +kernel, rfl, by decide +kernel, by decide +kernel⟩
theorem len_is_whole {K : PySem.W.Frag} : ∀ vs H Q E, (sp_is_whole K) vs H Q E → vs.length = 1 := fun _ _ _ _ h => spR_len h (by intro as d h; first | (obtain ⟨_, rfl, _⟩ := h; rfl) | (obtain ⟨_, _, rfl, _⟩ := h; rfl) | (obtain ⟨_, _, _, rfl, _⟩ := h; rfl) | (obtain ⟨_, _, _, _, rfl, _⟩ := h; rfl))
theorem run_is_whole {K : PySem.W.Frag} {w : World} {vs : List V} {H : Hp} {Q : VK} {E : XK} (h : (sp_is_whole K) vs H Q E) : t_is_whole K w { nx := fun _ H' => Q .non H', rt := Q } (start n_is_whole vs) H :=
  spR_run h (by rw [len_is_whole _ _ _ _ h]; decide) fun as d hR E hK => by
    subst hK
    obtain ⟨x, rfl, rfl⟩ := hR
    exact (xs_is_whole x).imp fun o e => by subst e; exact rfl
section
variable {P : Program} {w : World} {K : PySem.W.Frag} {mg : Str → Option Value} {base : Heap}
theorem ok_is_whole (F : Fd K mg "is_whole" s_is_whole) (B : Bl mg) : Cl P w K mg base 1 "is_whole" (sp_is_whole K) := by
  refine cl_of (k := 0) F sc_is_whole len_is_whole (fun _ _ _ _ _ _ us hl => match us, hl with | [_], _ => rfl) fun f cdv A outer s H vs Q E hr h => ⟨t_is_whole K w, ?_, run_is_whole h⟩
  exact (pss_one (ps_ret (pe_and (pe_callB call_isi (by rfl) B.b_isinstance (by decide +kernel) (pa_cons (pv 0) (pa_cons (pe_bltn (by rfl) B.b_int (by decide +kernel) rfl) pa_nil))) (pe_one (pe_not (pe_callB call_isi (by rfl) B.b_isinstance (by decide +kernel) (pa_cons (pv 0) (pa_cons (pe_bltn (by rfl) B.b_bool (by decide +kernel) rfl) pa_nil))))))))
end
abbrev s_is_stone : Stmt := top 7
abbrev n_is_stone : List Str := ["thing", "one"]
theorem sc_is_stone : FnScope n_is_stone ["thing"] (defScope s_is_stone) := ⟨rfl, rfl, rfl, by decide +kernel, rfl, by decide +kernel, by decide +kernel⟩
theorem len_is_stone {K : PySem.W.Frag} : ∀ vs H Q E, (sp_is_stone K) vs H Q E → vs.length = 1 := fun _ _ _ _ h => spR_len h (by intro as d h; first | (obtain ⟨_, rfl, _⟩ := h; rfl) | (obtain ⟨_, _, rfl, _⟩ := h; rfl) | (obtain ⟨_, _, _, rfl, _⟩ := h; rfl) | (obtain ⟨_, _, _, _, rfl, _⟩ := h; rfl))
theorem run_is_stone {K : PySem.W.Frag} {w : World} {vs : List V} {H : Hp} {Q : VK} {E : XK} (h : (sp_is_stone K) vs H Q E) : t_is_stone K w { nx := fun _ H' => Q .non H', rt := Q } (start n_is_stone vs) H :=
  spR_run h (by rw [len_is_stone _ _ _ _ h]; decide) fun as d hR E hK => by
    subst hK
    obtain ⟨x, rfl, hx, rfl⟩ := hR
    exact (xs_is_stone x hx).imp fun o e => by subst e; exact rfl
section
variable {P : Program} {w : World} {K : PySem.W.Frag} {mg : Str → Option Value} {base : Heap}
theorem ok_is_stone (F : Fd K mg "is_stone" s_is_stone) (B : Bl mg) (C_is_whole : Cl P w K mg base 1 "is_whole" (sp_is_whole K)) : Cl P w K mg base 2 "is_stone" (sp_is_stone K) := by
  refine cl_of (k := 1) F sc_is_stone len_is_stone (fun _ _ _ _ _ _ us hl => match us, hl with | [_], _ => rfl) fun f cdv A outer s H vs Q E hr h => ⟨t_is_stone K w, ?_, run_is_stone h⟩
  exact (pss_cons (ps_if (PW.pt (pw_or (pt_not (pt_val (pe_callB call_isi (by rfl) B.b_isinstance (by decide +kernel) (pa_cons (pv 0) (pa_cons (pe_bltn (by rfl) B.b_tuple (by decide +kernel) rfl) pa_nil))))) (pw_or1 (pt_cmpR op_ne (pe_callB call_len (by rfl) B.b_len (by decide +kernel) (pa_cons (pv 0) pa_nil)) pe_int (nomark _)))))
    (pss_one (ps_ret pe_bl))
    pss_nil)
    (pss_one (ps_ret (pe_callB (cr_all rfl) (by rfl) B.b_all (by decide +kernel) (pa_cons (pe_lc (own := [("one", 1)]) (g := (gName 1)) rfl sc_is_stone.nd (pi_tup (pv 0)) (blkOk_by (own := [("one", 1)]) (N := n_is_stone) (sc := (defScope s_is_stone)) (by decide +kernel)) (fun _ _ _ _ _ => (pg_name (i := 1) sc_is_stone.nd rfl (by first | exact Or.inl rfl | exact Or.inr rfl))) (fun _ _ _ _ _ => pts_nil) (fun _ _ _ _ _ => (pe_and (pe_cl C_is_whole hr (by decide) rfl (pa_cons (pv 1) pa_nil)) (pe_one (pe_chain op_le op_le pe_int (pv 1) (pe_glob rfl B.c_MOST_NUMBER ⟨_, rfl⟩)))))) pa_nil)))))
end
abbrev s_need_stones : Stmt := top 8
abbrev n_need_stones : List Str := ["thing", "one"]
theorem sc_need_stones : FnScope n_need_stones ["thing"] (defScope s_need_stones) := ⟨rfl, rfl, rfl, by decide +kernel, rfl, by decide +kernel, by decide +kernel⟩
theorem len_need_stones {K : PySem.W.Frag} : ∀ vs H Q E, (sp_need_stones K) vs H Q E → vs.length = 1 := fun _ _ _ _ h => spR_len h (by intro as d h; first | (obtain ⟨_, rfl, _⟩ := h; rfl) | (obtain ⟨_, _, rfl, _⟩ := h; rfl) | (obtain ⟨_, _, _, rfl, _⟩ := h; rfl) | (obtain ⟨_, _, _, _, rfl, _⟩ := h; rfl))
theorem run_need_stones {K : PySem.W.Frag} {w : World} {vs : List V} {H : Hp} {Q : VK} {E : XK} (h : (sp_need_stones K) vs H Q E) : t_need_stones K w { nx := fun _ H' => Q .non H', rt := Q } (start n_need_stones vs) H :=
  spR_run h (by rw [len_need_stones _ _ _ _ h]; decide) fun as d hR E hK => by
    subst hK
    obtain ⟨x, rfl, hx, rfl⟩ := hR
    exact (xs_need x hx).imp fun o e => by subst e; exact rfl
section
variable {P : Program} {w : World} {K : PySem.W.Frag} {mg : Str → Option Value} {base : Heap}
theorem ok_need_stones (F : Fd K mg "need_stones" s_need_stones) (B : Bl mg) (C_is_stone : Cl P w K mg base 2 "is_stone" (sp_is_stone K)) : Cl P w K mg base 3 "need_stones" (sp_need_stones K) := by
  refine cl_of (k := 2) F sc_need_stones len_need_stones (fun _ _ _ _ _ _ us hl => match us, hl with | [_], _ => rfl) fun f cdv A outer s H vs Q E hr h => ⟨t_need_stones K w, ?_, run_need_stones h⟩
  exact (pss_one (ps_if (PW.pt (pw_or (pt_not (pt_val (pe_callB call_isi (by rfl) B.b_isinstance (by decide +kernel) (pa_cons (pv 0) (pa_cons (pe_bltn (by rfl) B.b_list (by decide +kernel) rfl) pa_nil))))) (pw_or (pt_cmpR op_gt (pe_callB call_len (by rfl) B.b_len (by decide +kernel) (pa_cons (pv 0) pa_nil)) (pe_glob rfl B.c_MOST_STONES ⟨_, rfl⟩) (nomark _)) (pw_or1 (pt_not (pt_val (pe_callB (cr_all rfl) (by rfl) B.b_all (by decide +kernel) (pa_cons (pe_lc (own := [("one", 1)]) (g := (gName 1)) rfl sc_need_stones.nd (pi_list (pv 0)) (blkOk_by (own := [("one", 1)]) (N := n_need_stones) (sc := (defScope s_need_stones)) (by decide +kernel)) (fun _ _ _ _ _ => (pg_name (i := 1) sc_need_stones.nd rfl (by first | exact Or.inl rfl | exact Or.inr rfl))) (fun _ _ _ _ _ => pts_nil) (fun _ _ _ _ _ => (pe_cl C_is_stone hr (by decide) rfl (pa_cons (pv 1) pa_nil)))) pa_nil))))))))
    (pss_one ps_never)
    pss_nil))
end
abbrev s_joined : Stmt := top 10
abbrev n_joined : List Str := ["found", "place", "stone", "places", "numbers", "others", "group"]
theorem sc_joined : FnScope n_joined ["found", "place", "stone"] (defScope s_joined) := ⟨rfl, rfl, rfl, by decide +kernel, rfl, by decide +kernel, by decide +kernel⟩
theorem len_joined {K : PySem.W.Frag} : ∀ vs H Q E, (sp_joined K) vs H Q E → vs.length = 3 := fun _ _ _ _ h => spF_len h (by intro as d h; first | (obtain ⟨_, rfl, _⟩ := h; rfl) | (obtain ⟨_, _, rfl, _⟩ := h; rfl) | (obtain ⟨_, _, _, rfl, _⟩ := h; rfl) | (obtain ⟨_, _, _, _, rfl, _⟩ := h; rfl))
theorem run_joined {K : PySem.W.Frag} {w : World} {vs : List V} {H : Hp} {Q : VK} {E : XK} (h : (sp_joined K) vs H Q E) : t_joined K w { nx := fun _ H' => Q .non H', rt := Q } (start n_joined vs) H :=
  spF_run h (by rw [len_joined _ _ _ _ h]; decide) fun as d hR E hK => by
    subst hK
    obtain ⟨found, k, s, rfl, h1, rfl⟩ := hR
    exact (xs_joined found k s h1).imp fun o e => e ▸ rfl
section
variable {P : Program} {w : World} {K : PySem.W.Frag} {mg : Str → Option Value} {base : Heap}
theorem ok_joined (F : Fd K mg "joined" s_joined) (B : Bl mg) : Cl P w K mg base 1 "joined" (sp_joined K) := by
  refine cl_of (k := 0) F sc_joined len_joined (fun _ _ _ _ _ _ us hl => match us, hl with | [_, _, _], _ => rfl) fun f cdv A outer s H vs Q E hr h => ⟨t_joined K w, ?_, run_joined h⟩
  exact (pss_cons (ps_set (i := 3) sc_joined.nd rfl (by first | exact Or.inl rfl | exact Or.inr rfl) (pe_lst (pa_cons (pv 1) pa_nil)))
    (pss_cons (ps_set (i := 4) sc_joined.nd rfl (by first | exact Or.inl rfl | exact Or.inr rfl) (pe_disp (pps_cons (pe_ix ix_tup (pv 2) pe_int (fun _ _ => rfl)) pe_bl (pps_cons (pe_ix ix_tup (pv 2) pe_int (fun _ _ => rfl)) pe_bl pps_nil)) (by rfl) (by rfl) (fun z => by cases z) (by decide)))
    (pss_cons (ps_set (i := 5) sc_joined.nd rfl (by first | exact Or.inl rfl | exact Or.inr rfl) (pe_lst pa_nil))
    (pss_cons (ps_for PassesOwn.never rfl (pi_list (pv 0)) (pg_name (i := 6) sc_joined.nd rfl (by first | exact Or.inl rfl | exact Or.inr rfl))
    (pss_one (ps_if (PW.pt (pw_or (pt_cmp (pc_din (hu_of hr) (pe_ix ix_tup (pv 2) pe_int (fun _ _ => rfl)) (pe_ix ix_tup (pv 6) pe_int (fun _ _ => rfl)))) (pw_or1 (pt_cmp (pc_din (hu_of hr) (pe_ix ix_tup (pv 2) pe_int (fun _ _ => rfl)) (pe_ix ix_tup (pv 6) pe_int (fun _ _ => rfl)))))))
    (pss_cons (ps_set (i := 3) sc_joined.nd rfl (by first | exact Or.inl rfl | exact Or.inr rfl) (pe_op op_cat (pe_ix ix_tup (pv 6) pe_int (fun _ _ => rfl)) (pv 3)))
    (pss_one (ps_expr (pe_dupd (pv 4) (pe_ix ix_tup (pv 6) pe_int (fun _ _ => rfl)) (by exact ⟨rfl, rfl, rfl, rfl⟩)))))
    (pss_one (ps_expr (pe_bm PySem.F.plainAttrs_list PySem.F.slot_list_append PySem.F.type_list_append mt_append (pv 5) (pa_cons (pv 6) pa_nil)))))))
    (pss_one (ps_ret (pe_op op_cat (pv 5) (pe_lst (pa_cons (pe_tup (pa_cons (pv 3) (pa_cons (pv 4) pa_nil))) pa_nil)))))))))
end
abbrev s_groups : Stmt := top 11
abbrev n_groups : List Str := ["stones", "found", "place", "stone", "places", "numbers"]
theorem sc_groups : FnScope n_groups ["stones"] (defScope s_groups) := ⟨rfl, rfl, rfl, by decide +kernel, rfl, by decide +kernel, by decide +kernel⟩
theorem len_groups {K : PySem.W.Frag} : ∀ vs H Q E, (sp_groups K) vs H Q E → vs.length = 1 := fun _ _ _ _ h => spN_len h (by intro as d h; first | (obtain ⟨_, rfl, _⟩ := h; rfl) | (obtain ⟨_, _, rfl, _⟩ := h; rfl) | (obtain ⟨_, _, _, rfl, _⟩ := h; rfl) | (obtain ⟨_, _, _, _, rfl, _⟩ := h; rfl))
theorem run_groups {K : PySem.W.Frag} {w : World} {vs : List V} {H : Hp} {Q : VK} {E : XK} (h : (sp_groups K) vs H Q E) : t_groups K w { nx := fun _ H' => Q .non H', rt := Q } (start n_groups vs) H :=
  spN_run h (by rw [len_groups _ _ _ _ h]; decide) fun as d hR E hK => by
    subst hK
    obtain ⟨ss, rfl, h1, rfl⟩ := hR
    exact (xs_groups ss h1).imp fun o e => e ▸ rfl
section
variable {P : Program} {w : World} {K : PySem.W.Frag} {mg : Str → Option Value} {base : Heap}
theorem ok_groups (F : Fd K mg "groups" s_groups) (B : Bl mg) (C_need_stones : Cl P w K mg base 3 "need_stones" (sp_need_stones K)) (C_joined : Cl P w K mg base 1 "joined" (sp_joined K)) : Cl P w K mg base 4 "groups" (sp_groups K) := by
  refine cl_of (k := 3) F sc_groups len_groups (fun _ _ _ _ _ _ us hl => match us, hl with | [_], _ => rfl) fun f cdv A outer s H vs Q E hr h => ⟨t_groups K w, ?_, run_groups h⟩
  exact (pss_cons (ps_expr (pe_cl C_need_stones hr (by decide) rfl (pa_cons (pv 0) pa_nil)))
    (pss_cons (ps_set (i := 1) sc_groups.nd rfl (by first | exact Or.inl rfl | exact Or.inr rfl) (pe_lst pa_nil))
    (pss_cons (ps_for PassesOwn.never rfl (pi_enum (by rfl) B.b_enumerate (pa_cons (pv 0) pa_nil)) (pg_tup rfl (pgs_cons (pg_name (i := 2) sc_groups.nd rfl (by first | exact Or.inl rfl | exact Or.inr rfl)) (pgs_cons (pg_name (i := 3) sc_groups.nd rfl (by first | exact Or.inl rfl | exact Or.inr rfl)) pgs_nil)))
    (pss_one (ps_set (i := 1) sc_groups.nd rfl (by first | exact Or.inl rfl | exact Or.inr rfl) (pe_cl C_joined hr (by decide) rfl (pa_cons (pv 1) (pa_cons (pv 2) (pa_cons (pv 3) pa_nil)))))))
    (pss_one (ps_ret (pe_callB (cr_sortedL hr) (by rfl) B.b_sorted (by decide +kernel) (pa_cons (pe_lc (own := [("places", 4), ("numbers", 5)]) (g := (gTup K 2 (gCons (gName 4) (gCons (gName 5) gNil)))) rfl sc_groups.nd (pi_list (pv 1)) (blkOk_by (own := [("places", 4), ("numbers", 5)]) (N := n_groups) (sc := (defScope s_groups)) (by decide +kernel)) (fun _ _ _ _ _ => (pg_tup rfl (pgs_cons (pg_name (i := 4) sc_groups.nd rfl (by first | exact Or.inl rfl | exact Or.inr rfl)) (pgs_cons (pg_name (i := 5) sc_groups.nd rfl (by first | exact Or.inl rfl | exact Or.inr rfl)) pgs_nil)))) (fun _ _ _ _ _ => pts_nil) (fun _ _ _ _ _ => (pe_callB cr_sortedI (by rfl) B.b_sorted (by decide +kernel) (pa_cons (pv 4) pa_nil)))) pa_nil)))))))
end
abbrev s_counted : Stmt := top 12
abbrev n_counted : List Str := ["stones", "group", "found", "place", "number"]
theorem sc_counted : FnScope n_counted ["stones", "group"] (defScope s_counted) := ⟨rfl, rfl, rfl, by decide +kernel, rfl, by decide +kernel, by decide +kernel⟩
theorem len_counted {K : PySem.W.Frag} : ∀ vs H Q E, (sp_counted K) vs H Q E → vs.length = 2 := fun _ _ _ _ h => spK_len h (by intro as d h; first | (obtain ⟨_, rfl, _⟩ := h; rfl) | (obtain ⟨_, _, rfl, _⟩ := h; rfl) | (obtain ⟨_, _, _, rfl, _⟩ := h; rfl) | (obtain ⟨_, _, _, _, rfl, _⟩ := h; rfl))
theorem run_counted {K : PySem.W.Frag} {w : World} {vs : List V} {H : Hp} {Q : VK} {E : XK} (h : (sp_counted K) vs H Q E) : t_counted K w { nx := fun _ H' => Q .non H', rt := Q } (start n_counted vs) H :=
  spK_run h (by rw [len_counted _ _ _ _ h]; decide) fun as d hR E hK => by
    subst hK
    obtain ⟨ss, g, rfl, h1, h2, rfl⟩ := hR
    exact (xs_counted ss g h1 h2).imp fun o e => e ▸ rfl
section
variable {P : Program} {w : World} {K : PySem.W.Frag} {mg : Str → Option Value} {base : Heap}
theorem ok_counted (F : Fd K mg "counted" s_counted) (B : Bl mg) : Cl P w K mg base 1 "counted" (sp_counted K) := by
  refine cl_of (k := 0) F sc_counted len_counted (fun _ _ _ _ _ _ us hl => match us, hl with | [_, _], _ => rfl) fun f cdv A outer s H vs Q E hr h => ⟨t_counted K w, ?_, run_counted h⟩
  exact (pss_cons (ps_set (i := 2) sc_counted.nd rfl (by first | exact Or.inl rfl | exact Or.inr rfl) pe_dnewK)
    (pss_cons (ps_for PassesOwn.never rfl (pi_list (pv 1)) (pg_name (i := 3) sc_counted.nd rfl (by first | exact Or.inl rfl | exact Or.inr rfl))
    (pss_one (ps_for PassesOwn.never rfl (pi_tup (pe_ix ix_list (pv 0) (pv 3) (fun _ _ => rfl))) (pg_name (i := 4) sc_counted.nd rfl (by first | exact Or.inl rfl | exact Or.inr rfl))
    (pss_one (ps_dput (hu_of hr) (pv 2) (pv 4) (pe_op op_add (pe_dget2 (hu_of hr) (pv 2) (pv 4) pe_int (by exact ⟨rfl, rfl, rfl, rfl⟩)) pe_int) rfl)))))
    (pss_one (ps_ret (pv 2)))))
end
abbrev s_odd_ends : Stmt := top 13
abbrev n_odd_ends : List Str := ["stones", "group", "found", "number"]
theorem sc_odd_ends : FnScope n_odd_ends ["stones", "group"] (defScope s_odd_ends) := ⟨rfl, rfl, rfl, by decide +kernel, rfl, by decide +kernel, by decide +kernel⟩
theorem len_odd_ends {K : PySem.W.Frag} : ∀ vs H Q E, (sp_odd_ends K) vs H Q E → vs.length = 2 := fun _ _ _ _ h => spF_len h (by intro as d h; first | (obtain ⟨_, rfl, _⟩ := h; rfl) | (obtain ⟨_, _, rfl, _⟩ := h; rfl) | (obtain ⟨_, _, _, rfl, _⟩ := h; rfl) | (obtain ⟨_, _, _, _, rfl, _⟩ := h; rfl))
theorem run_odd_ends {K : PySem.W.Frag} {w : World} {vs : List V} {H : Hp} {Q : VK} {E : XK} (h : (sp_odd_ends K) vs H Q E) : t_odd_ends K w { nx := fun _ H' => Q .non H', rt := Q } (start n_odd_ends vs) H :=
  spF_run h (by rw [len_odd_ends _ _ _ _ h]; decide) fun as d hR E hK => by
    subst hK
    obtain ⟨ss, g, rfl, h1, h2, rfl⟩ := hR
    exact (xs_odd_ends ss g h1 h2).imp fun o e => e ▸ rfl
section
variable {P : Program} {w : World} {K : PySem.W.Frag} {mg : Str → Option Value} {base : Heap}
theorem ok_odd_ends (F : Fd K mg "odd_ends" s_odd_ends) (B : Bl mg) (C_need_stones : Cl P w K mg base 3 "need_stones" (sp_need_stones K)) (C_counted : Cl P w K mg base 1 "counted" (sp_counted K)) : Cl P w K mg base 4 "odd_ends" (sp_odd_ends K) := by
  refine cl_of (k := 3) F sc_odd_ends len_odd_ends (fun _ _ _ _ _ _ us hl => match us, hl with | [_, _], _ => rfl) fun f cdv A outer s H vs Q E hr h => ⟨t_odd_ends K w, ?_, run_odd_ends h⟩
  exact (pss_cons (ps_expr (pe_cl C_need_stones hr (by decide) rfl (pa_cons (pv 0) pa_nil)))
    (pss_cons (ps_set (i := 2) sc_odd_ends.nd rfl (by first | exact Or.inl rfl | exact Or.inr rfl) (pe_cl C_counted hr (by decide) rfl (pa_cons (pv 0) (pa_cons (pv 1) pa_nil))))
    (pss_one (ps_ret (pe_callB cr_sortedI (by rfl) B.b_sorted (by decide +kernel) (pa_cons (pe_lock (pe_lc (own := [("number", 3)]) (g := (gName 3)) rfl sc_odd_ends.nd (pi_keys (pv 2)) (blkOk_by (own := [("number", 3)]) (N := n_odd_ends) (sc := (defScope s_odd_ends)) (by decide +kernel)) (fun _ _ _ _ _ => (pg_name (i := 3) sc_odd_ends.nd rfl (by first | exact Or.inl rfl | exact Or.inr rfl))) (fun _ _ _ _ _ => (pts_one (pt_cmpR op_eq (pe_op op_mod (pe_dget (hu_of hr) (pv 2) (pv 3) (fun _ _ => rfl)) pe_int) pe_int (nomark _)))) (fun _ _ _ _ _ => (pv 3)))) pa_nil))))))
end
abbrev s_why : Stmt := top 14
abbrev n_why : List Str := ["stones", "group"]
theorem sc_why : FnScope n_why ["stones"] (defScope s_why) := ⟨rfl, rfl, rfl, by decide +kernel, rfl, by decide +kernel, by decide +kernel⟩
theorem len_why {K : PySem.W.Frag} : ∀ vs H Q E, (sp_why K) vs H Q E → vs.length = 1 := fun _ _ _ _ h => spN_len h (by intro as d h; first | (obtain ⟨_, rfl, _⟩ := h; rfl) | (obtain ⟨_, _, rfl, _⟩ := h; rfl) | (obtain ⟨_, _, _, rfl, _⟩ := h; rfl) | (obtain ⟨_, _, _, _, rfl, _⟩ := h; rfl))
theorem run_why {K : PySem.W.Frag} {w : World} {vs : List V} {H : Hp} {Q : VK} {E : XK} (h : (sp_why K) vs H Q E) : t_why K w { nx := fun _ H' => Q .non H', rt := Q } (start n_why vs) H :=
  spN_run h (by rw [len_why _ _ _ _ h]; decide) fun as d hR E hK => by
    subst hK
    obtain ⟨ss, rfl, h1, rfl⟩ := hR
    exact (xs_why ss h1).imp fun o e => e ▸ rfl
section
variable {P : Program} {w : World} {K : PySem.W.Frag} {mg : Str → Option Value} {base : Heap}
theorem ok_why (F : Fd K mg "why" s_why) (B : Bl mg) (C_groups : Cl P w K mg base 4 "groups" (sp_groups K)) (C_odd_ends : Cl P w K mg base 4 "odd_ends" (sp_odd_ends K)) : Cl P w K mg base 5 "why" (sp_why K) := by
  refine cl_of (k := 4) F sc_why len_why (fun _ _ _ _ _ _ us hl => match us, hl with | [_], _ => rfl) fun f cdv A outer s H vs Q E hr h => ⟨t_why K w, ?_, run_why h⟩
  exact (pss_one (ps_ret (pe_lc (own := [("group", 1)]) (g := (gName 1)) rfl sc_why.nd (pi_list (pe_cl C_groups hr (by decide) rfl (pa_cons (pv 0) pa_nil))) (blkOk_by (own := [("group", 1)]) (N := n_why) (sc := (defScope s_why)) (by decide +kernel)) (fun _ _ _ _ _ => (pg_name (i := 1) sc_why.nd rfl (by first | exact Or.inl rfl | exact Or.inr rfl))) (fun _ _ _ _ _ => pts_nil) (fun _ _ _ _ _ => (pe_tup (pa_cons (pv 1) (pa_cons (pe_cl C_odd_ends hr (by decide) rfl (pa_cons (pv 0) (pa_cons (pv 1) pa_nil))) pa_nil)))))))
end
abbrev s_R_init : Stmt := inClass (top 16) 0
abbrev n_R_init : List Str := ["self", "roads", "at", "road", "number"]
theorem sc_R_init : FnScope n_R_init ["self", "roads"] (defScope s_R_init) := ⟨rfl, rfl, rfl, by decide +kernel, rfl, by decide +kernel, by decide +kernel⟩
theorem len_R_init {K : PySem.W.Frag} {cR : Addr} : ∀ vs H Q E, (sp_R_init K cR) vs H Q E → vs.length = 2 := fun _ _ _ _ h => spM_len h (by intro as as2 r h; first | (obtain ⟨_, rfl, _⟩ := h; rfl) | (obtain ⟨_, _, rfl, _⟩ := h; rfl) | (obtain ⟨_, _, _, rfl, _⟩ := h; rfl) | (obtain ⟨_, _, _, _, rfl, _⟩ := h; rfl) | (obtain ⟨_, _, _, _, _, rfl, _⟩ := h; rfl) | (obtain ⟨_, _, _, _, _, _, rfl, _⟩ := h; rfl) | (obtain ⟨_, _, _, _, _, _, _, rfl, _⟩ := h; rfl) | (obtain ⟨_, _, _, _, _, _, _, _, rfl, _⟩ := h; rfl))
theorem run_R_init {K : PySem.W.Frag} {w : World} {mg : Str → Option Value} {cR : Addr} (TT : RoadT K mg cR) {vs : List V} {H : Hp} {Q : VK} {E : XK} (h : (sp_R_init K cR) vs H Q E) : t_R_init K w cR { nx := fun _ H' => Q .non H', rt := Q } (start n_R_init vs) H :=
  spM_run h (by rw [len_R_init _ _ _ _ h]; decide) (fun as as2 r hR => by
    obtain ⟨p, R, rfl, hl, rfl, rfl⟩ := hR
    exact back_of insB_pin road_pin rfl no1) fun as as2 r hR E hK => by
    subst hK
    obtain ⟨p, R, rfl, hl, rfl, rfl⟩ := hR
    exact xs_R_init TT hl
section
variable {P : Program} {w : World} {K : PySem.W.Frag} {mg : Str → Option Value} {base : Heap}
theorem ok_R_init {cR : Addr} (TT : RoadT K mg cR) (F : FdM K cR "__init__" "Roads.__init__" s_R_init) (mk : PySem.W.makesIn K cR = true) (kc : PySem.W.keepIn K (.ref cR) = true) (B : Bl mg) : ClI P w K mg base 1 cR (sp_R_init K cR) := by
  refine cli_of (k := 0) F mk kc sc_R_init len_R_init (fun _ _ _ _ _ _ us hl => match us, hl with | [_, _], _ => rfl) fun f cdv A outer s H vs Q E hr h => ⟨t_R_init K w cR, ?_, run_R_init TT h⟩
  exact (pss_cons (ps_fld (pv 0) (pv 1) rfl)
    (pss_cons (ps_fld (pv 0) (pe_op op_rep (pe_lst (pa_cons pe_bl pa_nil)) (pe_callB call_len (by rfl) B.b_len (by decide +kernel) (pa_cons (pv 1) pa_nil))) rfl)
    (pss_cons (ps_fld (pv 0) pe_dnewK rfl)
    (pss_one (ps_for PassesOwn.never rfl (pi_enum (by rfl) B.b_enumerate (pa_cons (pv 1) pa_nil)) (pg_tup rfl (pgs_cons (pg_name (i := 2) sc_R_init.nd rfl (by first | exact Or.inl rfl | exact Or.inr rfl)) (pgs_cons (pg_name (i := 3) sc_R_init.nd rfl (by first | exact Or.inl rfl | exact Or.inr rfl)) pgs_nil)))
    (pss_one (ps_for PassesOwn.never rfl (pi_tup (pe_slice sl_tupA (pv 3) (po_some pe_int) po_none)) (pg_name (i := 4) sc_R_init.nd rfl (by first | exact Or.inl rfl | exact Or.inr rfl))
    (pss_one (ps_dput (hu_of hr) (pe_fld (pv 0) rfl) (pv 4) (pe_op op_cat (pe_lst (pa_cons (pv 2) pa_nil)) (pe_dget2 (hu_of hr) (pe_fld (pv 0) rfl) (pv 4) (pe_lst pa_nil) (by exact ⟨rfl, rfl, rfl, rfl⟩))) rfl)))))))))
end
abbrev s_R_next_at : Stmt := inClass (top 16) 1
abbrev n_R_next_at : List Str := ["self", "number", "left", "at"]
theorem sc_R_next_at : FnScope n_R_next_at ["self", "number"] (defScope s_R_next_at) := ⟨rfl, rfl, rfl, by decide +kernel, rfl, by decide +kernel, by decide +kernel⟩
theorem len_R_next_at {K : PySem.W.Frag} {cR : Addr} : ∀ vs H Q E, (sp_R_next_at K cR) vs H Q E → vs.length = 2 := fun _ _ _ _ h => spM_len h (by intro as as2 r h; first | (obtain ⟨_, rfl, _⟩ := h; rfl) | (obtain ⟨_, _, rfl, _⟩ := h; rfl) | (obtain ⟨_, _, _, rfl, _⟩ := h; rfl) | (obtain ⟨_, _, _, _, rfl, _⟩ := h; rfl) | (obtain ⟨_, _, _, _, _, rfl, _⟩ := h; rfl) | (obtain ⟨_, _, _, _, _, _, rfl, _⟩ := h; rfl) | (obtain ⟨_, _, _, _, _, _, _, rfl, _⟩ := h; rfl) | (obtain ⟨_, _, _, _, _, _, _, _, rfl, _⟩ := h; rfl))
theorem run_R_next_at {K : PySem.W.Frag} {w : World} {mg : Str → Option Value} {cR : Addr} (TT : RoadT K mg cR) {vs : List V} {H : Hp} {Q : VK} {E : XK} (h : (sp_R_next_at K cR) vs H Q E) : t_R_next_at K w cR { nx := fun _ H' => Q .non H', rt := Q } (start n_R_next_at vs) H :=
  spM_run h (by rw [len_R_next_at _ _ _ _ h]; decide) (fun as as2 r hR => by
    obtain ⟨p, R, go, W, n, rfl, ho, hW, rfl, rfl⟩ := hR
    exact back_of road_pin road_pin rfl no1) fun as as2 r hR E hK => by
    subst hK
    obtain ⟨p, R, go, W, n, rfl, ho, hW, rfl, rfl⟩ := hR
    exact xs_R_next_at TT n ho hW
section
variable {P : Program} {w : World} {K : PySem.W.Frag} {mg : Str → Option Value} {base : Heap}
theorem ok_R_next_at (B : Bl mg) {cR : Addr} (TT : RoadT K mg cR) (F : FdM K cR "next_at" "Roads.next_at" s_R_next_at) : ClM P w K mg base 1 cR "next_at" (sp_R_next_at K cR) := by
  refine clm_of (k := 0) F sc_R_next_at len_R_next_at (fun _ _ _ _ _ _ us hl => match us, hl with | [_, _], _ => rfl) fun f cdv A outer s H vs Q E hr h => ⟨t_R_next_at K w cR, ?_, run_R_next_at TT h⟩
  exact (pss_cons (ps_set (i := 2) sc_R_next_at.nd rfl (by first | exact Or.inl rfl | exact Or.inr rfl) (pe_dget (hu_of hr) (pe_fld (pv 0) rfl) (pv 1) (fun _ _ => rfl)))
    (pss_cons (ps_while PassesOwn.never (pt_cmpR (op_neD hr.units) (pv 2) (pe_lst pa_nil) (nomark _))
    (pss_cons (ps_set (i := 3) sc_R_next_at.nd rfl (by first | exact Or.inl rfl | exact Or.inr rfl) (pe_bm0 PySem.F.plainAttrs_list PySem.F.slot_list_pop PySem.F.type_list_pop mt_pop (pv 2)))
    (pss_one (ps_if (pt_not (pt_val (pe_ix ix_list (pe_fld (pv 0) rfl) (pv 3) (fun _ _ => rfl))))
    (pss_cons (ps_asg pe_bl (pg_sub (pe_fld (pv 0) rfl) (pv 3) set_list))
    (pss_one (ps_ret (pv 3))))
    pss_nil))))
    (pss_one (ps_ret (pe_un un_neg pe_int)))))
end
abbrev s_R_walk : Stmt := inClass (top 16) 2
abbrev n_R_walk : List Str := ["self", "start", "found", "steps", "number", "at", "place", "one", "other", "turned"]
theorem sc_R_walk : FnScope n_R_walk ["self", "start"] (defScope s_R_walk) := ⟨rfl, rfl, rfl, by decide +kernel, rfl, by decide +kernel, by decide +kernel⟩
theorem len_R_walk {K : PySem.W.Frag} {cR : Addr} : ∀ vs H Q E, (sp_R_walk K cR) vs H Q E → vs.length = 2 := fun _ _ _ _ h => spM_len h (by intro as as2 r h; first | (obtain ⟨_, rfl, _⟩ := h; rfl) | (obtain ⟨_, _, rfl, _⟩ := h; rfl) | (obtain ⟨_, _, _, rfl, _⟩ := h; rfl) | (obtain ⟨_, _, _, _, rfl, _⟩ := h; rfl) | (obtain ⟨_, _, _, _, _, rfl, _⟩ := h; rfl) | (obtain ⟨_, _, _, _, _, _, rfl, _⟩ := h; rfl) | (obtain ⟨_, _, _, _, _, _, _, rfl, _⟩ := h; rfl) | (obtain ⟨_, _, _, _, _, _, _, _, rfl, _⟩ := h; rfl))
theorem run_R_walk {K : PySem.W.Frag} {w : World} {mg : Str → Option Value} {cR : Addr} (TT : RoadT K mg cR) {vs : List V} {H : Hp} {Q : VK} {E : XK} (h : (sp_R_walk K cR) vs H Q E) : t_R_walk K w cR { nx := fun _ H' => Q .non H', rt := Q } (start n_R_walk vs) H :=
  spM_run h (by rw [len_R_walk _ _ _ _ h]; decide) (fun as as2 r hR => by
    obtain ⟨p, R, v0, rfl, hl, ho, rfl, rfl⟩ := hR
    exact back_no rfl (fun t h => by simpa using h)) fun as as2 r hR E hK => by
    subst hK
    obtain ⟨p, R, v0, rfl, hl, ho, rfl, rfl⟩ := hR
    exact xs_R_walk TT v0 hl ho
section
variable {P : Program} {w : World} {K : PySem.W.Frag} {mg : Str → Option Value} {base : Heap}
theorem ok_R_walk (B : Bl mg) {cR : Addr} (TT : RoadT K mg cR) (C_R_next_at : ClM P w K mg base 1 cR "next_at" (sp_R_next_at K cR)) (F : FdM K cR "walk" "Roads.walk" s_R_walk) : ClM P w K mg base 2 cR "walk" (sp_R_walk K cR) := by
  refine clm_of (k := 1) F sc_R_walk len_R_walk (fun _ _ _ _ _ _ us hl => match us, hl with | [_, _], _ => rfl) fun f cdv A outer s H vs Q E hr h => ⟨t_R_walk K w cR, ?_, run_R_walk TT h⟩
  exact (pss_cons (ps_set (i := 2) sc_R_walk.nd rfl (by first | exact Or.inl rfl | exact Or.inr rfl) (pe_lst pa_nil))
    (pss_cons (ps_set (i := 3) sc_R_walk.nd rfl (by first | exact Or.inl rfl | exact Or.inr rfl) (pe_lst (pa_cons (pe_tup (pa_cons (pv 1) (pa_cons (pe_un un_neg pe_int) (pa_cons pe_int pa_nil)))) pa_nil)))
    (pss_cons (ps_while PassesOwn.never (pt_cmpR (op_neD hr.units) (pv 3) (pe_lst pa_nil) (nomark _))
    (pss_cons (ps_set (i := 4) sc_R_walk.nd rfl (by first | exact Or.inl rfl | exact Or.inr rfl) (pe_ix ix_tup (pe_ix ix_list (pv 3) (pe_un un_neg pe_int) (fun _ _ => rfl)) pe_int (fun _ _ => rfl)))
    (pss_cons (ps_set (i := 5) sc_R_walk.nd rfl (by first | exact Or.inl rfl | exact Or.inr rfl) (pe_clm C_R_next_at TT.cl hr (by decide) (pv 0) (pa_cons (pv 4) pa_nil)))
    (pss_one (ps_if (pt_cmpR op_lt (pv 5) pe_int (nomark _))
    (pss_one (ps_expr (pe_bm PySem.F.plainAttrs_list PySem.F.slot_list_append PySem.F.type_list_append mt_append (pv 2) (pa_cons (pe_slice sl_tupA (pe_bm0 PySem.F.plainAttrs_list PySem.F.slot_list_pop PySem.F.type_list_pop mt_pop (pv 3)) (po_some pe_int) po_none) pa_nil))))
    (pss_cons (ps_asg (pe_ix ix_list (pe_fld (pv 0) rfl) (pv 5) (fun _ _ => rfl)) (pg_tup rfl (pgs_cons (pg_name (i := 6) sc_R_walk.nd rfl (by first | exact Or.inl rfl | exact Or.inr rfl)) (pgs_cons (pg_name (i := 7) sc_R_walk.nd rfl (by first | exact Or.inl rfl | exact Or.inr rfl)) (pgs_cons (pg_name (i := 8) sc_R_walk.nd rfl (by first | exact Or.inl rfl | exact Or.inr rfl)) pgs_nil)))))
    (pss_cons (ps_set (i := 9) sc_R_walk.nd rfl (by first | exact Or.inl rfl | exact Or.inr rfl) (pe_callTy call_int1 (by rfl) B.b_int (by decide +kernel) (pa_cons (pe_cmpR op_ne (pv 7) (pv 4) (nomark _)) pa_nil)))
    (pss_one (ps_expr (pe_bm PySem.F.plainAttrs_list PySem.F.slot_list_append PySem.F.type_list_append mt_append (pv 3) (pa_cons (pe_tup (pa_cons (pe_ix ix_list (pe_lst (pa_cons (pv 8) (pa_cons (pv 7) pa_nil))) (pv 9) (fun _ _ => rfl)) (pa_cons (pv 6) (pa_cons (pv 9) pa_nil)))) pa_nil)))))))))))
    (pss_one (ps_ret (pe_revL (pe_slice sl_list (pv 2) po_none (po_some (pe_un un_neg pe_int)))))))))
end
abbrev s_roads_of : Stmt := top 17
abbrev n_roads_of : List Str := ["stones", "group", "odd", "found", "at", "place"]
theorem sc_roads_of : FnScope n_roads_of ["stones", "group", "odd"] (defScope s_roads_of) := ⟨rfl, rfl, rfl, by decide +kernel, rfl, by decide +kernel, by decide +kernel⟩
theorem len_roads_of {K : PySem.W.Frag} : ∀ vs H Q E, (sp_roads_of K) vs H Q E → vs.length = 3 := fun _ _ _ _ h => spF_len h (by intro as d h; first | (obtain ⟨_, rfl, _⟩ := h; rfl) | (obtain ⟨_, _, rfl, _⟩ := h; rfl) | (obtain ⟨_, _, _, rfl, _⟩ := h; rfl) | (obtain ⟨_, _, _, _, rfl, _⟩ := h; rfl))
theorem run_roads_of {K : PySem.W.Frag} {w : World} {vs : List V} {H : Hp} {Q : VK} {E : XK} (h : (sp_roads_of K) vs H Q E) : t_roads_of K w { nx := fun _ H' => Q .non H', rt := Q } (start n_roads_of vs) H :=
  spF_run h (by rw [len_roads_of _ _ _ _ h]; decide) fun as d hR E hK => by
    subst hK
    obtain ⟨ss, g, odd, rfl, h1, h2, rfl⟩ := hR
    exact (xs_roads_of ss g odd h1 h2).imp fun o e => e ▸ rfl
section
variable {P : Program} {w : World} {K : PySem.W.Frag} {mg : Str → Option Value} {base : Heap}
theorem ok_roads_of (F : Fd K mg "roads_of" s_roads_of) (B : Bl mg) : Cl P w K mg base 1 "roads_of" (sp_roads_of K) := by
  refine cl_of (k := 0) F sc_roads_of len_roads_of (fun _ _ _ _ _ _ us hl => match us, hl with | [_, _, _], _ => rfl) fun f cdv A outer s H vs Q E hr h => ⟨t_roads_of K w, ?_, run_roads_of h⟩
  exact (pss_cons (ps_setLc (i := 3) (own := [("place", 5)]) (g := (gName 5)) rfl sc_roads_of.nd rfl rfl (sw_true rfl rfl rfl (by decide +kernel)) (pi_list (pv 1)) (blkOk_by (own := [("place", 5)]) (N := n_roads_of) (sc := (defScope s_roads_of)) (by decide +kernel)) (fun _ _ _ _ _ => (pg_name (i := 5) sc_roads_of.nd rfl (by first | exact Or.inl rfl | exact Or.inr rfl))) (fun _ _ _ _ _ => pts_nil) (fun _ _ _ _ _ => (pe_tup (pa_cons (pv 5) (pa_cons (pe_ix ix_tup (pe_ix ix_list (pv 0) (pv 5) (fun _ _ => rfl)) pe_int (fun _ _ => rfl)) (pa_cons (pe_ix ix_tup (pe_ix ix_list (pv 0) (pv 5) (fun _ _ => rfl)) pe_int (fun _ _ => rfl)) pa_nil))))))
    (pss_cons (ps_for PassesOwn.never rfl (pi_range3 (by rfl) B.b_range (pa_cons pe_int (pa_cons (pe_op op_sub (pe_callB call_len (by rfl) B.b_len (by decide +kernel) (pa_cons (pv 2) pa_nil)) pe_int) (pa_cons pe_int pa_nil)))) (pg_name (i := 4) sc_roads_of.nd rfl (by first | exact Or.inl rfl | exact Or.inr rfl))
    (pss_one (ps_expr (pe_bm PySem.F.plainAttrs_list PySem.F.slot_list_append PySem.F.type_list_append mt_append (pv 3) (pa_cons (pe_tup (pa_cons (pe_un un_neg pe_int) (pa_cons (pe_ix ix_list (pv 2) (pv 4) (fun _ _ => rfl)) (pa_cons (pe_ix ix_list (pv 2) (pe_op op_add (pv 4) pe_int) (fun _ _ => rfl)) pa_nil)))) pa_nil)))))
    (pss_one (ps_ret (pv 3)))))
end
abbrev s_parted : Stmt := top 18
abbrev n_parted : List Str := ["walk", "found", "step"]
theorem sc_parted : FnScope n_parted ["walk"] (defScope s_parted) := ⟨rfl, rfl, rfl, by decide +kernel, rfl, by decide +kernel, by decide +kernel⟩
theorem len_parted {K : PySem.W.Frag} : ∀ vs H Q E, (sp_parted K) vs H Q E → vs.length = 1 := fun _ _ _ _ h => spB_len h (by intro as r h; first | (obtain ⟨_, rfl, _⟩ := h; rfl) | (obtain ⟨_, _, rfl, _⟩ := h; rfl) | (obtain ⟨_, _, _, rfl, _⟩ := h; rfl) | (obtain ⟨_, _, _, _, rfl, _⟩ := h; rfl) | (obtain ⟨_, _, _, _, _, rfl, _⟩ := h; rfl) | (obtain ⟨_, _, _, _, _, _, rfl, _⟩ := h; rfl) | (obtain ⟨_, _, _, _, _, _, _, rfl, _⟩ := h; rfl) | (obtain ⟨_, _, _, _, _, _, _, _, rfl, _⟩ := h; rfl))
theorem run_parted {K : PySem.W.Frag} {w : World} {vs : List V} {H : Hp} {Q : VK} {E : XK} (h : (sp_parted K) vs H Q E) : t_parted K w { nx := fun _ H' => Q .non H', rt := Q } (start n_parted vs) H :=
  spB_run h (by rw [len_parted _ _ _ _ h]; decide) fun as r hR hm E hK => by
    subst hK
    obtain ⟨st, rfl, h1, rfl⟩ := hR
    exact xs_parted st h1
section
variable {P : Program} {w : World} {K : PySem.W.Frag} {mg : Str → Option Value} {base : Heap}
theorem ok_parted (F : Fd K mg "parted" s_parted) (B : Bl mg) : Cl P w K mg base 1 "parted" (sp_parted K) := by
  refine cl_of (k := 0) F sc_parted len_parted (fun _ _ _ _ _ _ us hl => match us, hl with | [_], _ => rfl) fun f cdv A outer s H vs Q E hr h => ⟨t_parted K w, ?_, run_parted h⟩
  exact (pss_cons (ps_set (i := 1) sc_parted.nd rfl (by first | exact Or.inl rfl | exact Or.inr rfl) (pe_lst (pa_cons (pe_lst pa_nil) pa_nil)))
    (pss_cons (ps_for PassesOwn.never rfl (pi_list (pv 0)) (pg_name (i := 2) sc_parted.nd rfl (by first | exact Or.inl rfl | exact Or.inr rfl))
    (pss_one (ps_if (pt_cmpR op_lt (pe_ix ix_tup (pv 2) pe_int (fun _ _ => rfl)) pe_int (nomark _))
    (pss_one (ps_expr (pe_bm PySem.F.plainAttrs_list PySem.F.slot_list_append PySem.F.type_list_append mt_append (pv 1) (pa_cons (pe_lst pa_nil) pa_nil))))
    (pss_one (ps_expr (pe_bm PySem.F.plainAttrs_list PySem.F.slot_list_append PySem.F.type_list_append mt_append (pe_ix ix_list (pv 1) (pe_un un_neg pe_int) (fun _ _ => rfl)) (pa_cons (pv 2) pa_nil)))))))
    (pss_one (ps_ret (pv 1)))))
end
abbrev s_laid : Stmt := top 19
abbrev n_laid : List Str := ["stones", "found", "group", "odd", "start"]
theorem sc_laid : FnScope n_laid ["stones"] (defScope s_laid) := ⟨rfl, rfl, rfl, by decide +kernel, rfl, by decide +kernel, by decide +kernel⟩
theorem len_laid {K : PySem.W.Frag} {cR : Addr} : ∀ vs H Q E, (sp_laid K cR) vs H Q E → vs.length = 1 := fun _ _ _ _ h => spB_len h (by intro as r h; first | (obtain ⟨_, rfl, _⟩ := h; rfl) | (obtain ⟨_, _, rfl, _⟩ := h; rfl) | (obtain ⟨_, _, _, rfl, _⟩ := h; rfl) | (obtain ⟨_, _, _, _, rfl, _⟩ := h; rfl) | (obtain ⟨_, _, _, _, _, rfl, _⟩ := h; rfl) | (obtain ⟨_, _, _, _, _, _, rfl, _⟩ := h; rfl) | (obtain ⟨_, _, _, _, _, _, _, rfl, _⟩ := h; rfl) | (obtain ⟨_, _, _, _, _, _, _, _, rfl, _⟩ := h; rfl))
theorem run_laid {K : PySem.W.Frag} {w : World} {mg : Str → Option Value} {cR : Addr} (TT : RoadT K mg cR) {vs : List V} {H : Hp} {Q : VK} {E : XK} (h : (sp_laid K cR) vs H Q E) : t_laid K w cR { nx := fun _ H' => Q .non H', rt := Q } (start n_laid vs) H :=
  spB_run h (by rw [len_laid _ _ _ _ h]; decide) fun as r hR hm E hK => by
    subst hK
    obtain ⟨ss, rfl, h1, rfl⟩ := hR
    exact xs_laid TT ss h1
section
variable {P : Program} {w : World} {K : PySem.W.Frag} {mg : Str → Option Value} {base : Heap}
theorem ok_laid (F : Fd K mg "laid" s_laid) (B : Bl mg) {cR : Addr} (TT : RoadT K mg cR) (C_why : Cl P w K mg base 5 "why" (sp_why K)) (C_R_init : ClI P w K mg base 1 cR (sp_R_init K cR)) (C_roads_of : Cl P w K mg base 1 "roads_of" (sp_roads_of K)) (C_R_walk : ClM P w K mg base 2 cR "walk" (sp_R_walk K cR)) (C_parted : Cl P w K mg base 1 "parted" (sp_parted K)) : Cl P w K mg base 6 "laid" (sp_laid K cR) := by
  refine cl_of (k := 5) F sc_laid len_laid (fun _ _ _ _ _ _ us hl => match us, hl with | [_], _ => rfl) fun f cdv A outer s H vs Q E hr h => ⟨t_laid K w cR, ?_, run_laid TT h⟩
  exact (pss_cons (ps_set (i := 1) sc_laid.nd rfl (by first | exact Or.inl rfl | exact Or.inr rfl) (pe_lst pa_nil))
    (pss_cons (ps_for PassesOwn.never rfl (pi_list (pe_cl C_why hr (by decide) rfl (pa_cons (pv 0) pa_nil))) (pg_tup rfl (pgs_cons (pg_name (i := 2) sc_laid.nd rfl (by first | exact Or.inl rfl | exact Or.inr rfl)) (pgs_cons (pg_name (i := 3) sc_laid.nd rfl (by first | exact Or.inl rfl | exact Or.inr rfl)) pgs_nil)))
    (pss_cons (ps_set (i := 4) sc_laid.nd rfl (by first | exact Or.inl rfl | exact Or.inr rfl) (pe_ifExp (pt_cmpR (op_neD hr.units) (pv 3) (pe_lst pa_nil) (nomark _)) (pe_ix ix_list (pv 3) pe_int (fun _ _ => rfl)) (pe_ix ix_tup (pe_ix ix_list (pv 0) (pe_ix ix_list (pv 2) pe_int (fun _ _ => rfl)) (fun _ _ => rfl)) pe_int (fun _ _ => rfl))))
    (pss_one (ps_expr (pe_bm PySem.F.plainAttrs_list PySem.F.slot_list_extend PySem.F.type_list_extend mt_extend (pv 1) (pa_cons (pe_cl C_parted hr (by decide) rfl (pa_cons (pe_clm C_R_walk TT.cl hr (by decide) (pe_cli C_R_init hr (by decide) rfl TT.mg (pa_cons (pe_cl C_roads_of hr (by decide) rfl (pa_cons (pv 0) (pa_cons (pv 2) (pa_cons (pv 3) pa_nil)))) pa_nil)) (pa_cons (pv 4) pa_nil)) pa_nil)) pa_nil))))))
    (pss_one (ps_ret (pv 1)))))
end
abbrev s_cell : Stmt := top 21
abbrev n_cell : List Str := ["_law_script", "_law_k", "_law_cell_here", "_law_more"]
theorem sc_cell : FnScope n_cell ["_law_script", "_law_k"] (defScope s_cell) := ⟨rfl, rfl, rfl, by decide +kernel, rfl, by decide +kernel, by decide +kernel⟩
theorem len_cell {K : PySem.W.Frag} : ∀ vs H Q E, (sp_cell K) vs H Q E → vs.length = 2 := fun _ _ _ _ h => spR_len h (by intro as d h; first | (obtain ⟨_, rfl, _⟩ := h; rfl) | (obtain ⟨_, _, rfl, _⟩ := h; rfl) | (obtain ⟨_, _, _, rfl, _⟩ := h; rfl) | (obtain ⟨_, _, _, _, rfl, _⟩ := h; rfl))
theorem run_cell {K : PySem.W.Frag} {w : World} {vs : List V} {H : Hp} {Q : VK} {E : XK} (h : (sp_cell K) vs H Q E) : t_cell K w { nx := fun _ H' => Q .non H', rt := Q } (start n_cell vs) H :=
  spR_run h (by rw [len_cell _ _ _ _ h]; decide) fun as d hR E hK => by
    subst hK
    obtain ⟨ns, k, rfl, hz, rfl⟩ := hR
    exact (xs_cell ns k hz).imp fun o e => by subst e; exact rfl
section
variable {P : Program} {w : World} {K : PySem.W.Frag} {mg : Str → Option Value} {base : Heap}
theorem ok_cell (F : Fd K mg "_law_cell" s_cell) (B : Bl mg) : Cl P w K mg base 1 "_law_cell" (sp_cell K) := by
  refine cl_of (k := 0) F sc_cell len_cell (fun _ _ _ _ _ _ us hl => match us, hl with | [_, _], _ => rfl) fun f cdv A outer s H vs Q E hr h => ⟨t_cell K w, ?_, run_cell h⟩
  exact (pss_cons (ps_set (i := 2) sc_cell.nd rfl (by first | exact Or.inl rfl | exact Or.inr rfl) (pe_op op_add (pe_op op_mul pe_int (pv 1)) pe_int))
    (pss_cons (ps_if (pt_cmpR (op_neD hr.units) (pv 0) (pe_lst pa_nil) (nomark _))
    (pss_cons (ps_set (i := 2) sc_cell.nd rfl (by first | exact Or.inl rfl | exact Or.inr rfl) (pe_op op_mul (pe_ix ix_list (pv 0) (pe_op op_mod (pv 1) (pe_callB call_len (by rfl) B.b_len (by decide +kernel) (pa_cons (pv 0) pa_nil))) (fun _ _ => rfl)) pe_int))
    (pss_one (ps_set (i := 2) sc_cell.nd rfl (by first | exact Or.inl rfl | exact Or.inr rfl) (pe_op op_add (pe_op op_add (pv 2) (pe_op op_mul pe_int (pv 1))) (pe_op op_mul (pe_op op_fdiv (pv 1) (pe_callB call_len (by rfl) B.b_len (by decide +kernel) (pa_cons (pv 0) pa_nil))) pe_int)))))
    pss_nil)
    (pss_cons (ps_set (i := 3) sc_cell.nd rfl (by first | exact Or.inl rfl | exact Or.inr rfl) (pe_op op_mod (pv 2) pe_int))
    (pss_cons (ps_set (i := 3) sc_cell.nd rfl (by first | exact Or.inl rfl | exact Or.inr rfl) (pe_op op_mod (pe_op op_mul (pv 3) (pv 3)) pe_int))
    (pss_one (ps_ret (pe_op op_mod (pe_op op_add (pe_op op_add (pe_op op_mul (pv 3) (pv 3)) (pe_op op_mul pe_int (pv 3))) (pv 1)) pe_int)))))))
end
abbrev s_stones : Stmt := top 22
abbrev n_stones : List Str := ["_law_script", "_law_kind", "_law_found", "_law_k", "_law_cell_here", "_law_most"]
theorem sc_stones : FnScope n_stones ["_law_script"] (defScope s_stones) := ⟨rfl, rfl, rfl, by decide +kernel, rfl, by decide +kernel, by decide +kernel⟩
theorem len_stones {K : PySem.W.Frag} : ∀ vs H Q E, (sp_stones K) vs H Q E → vs.length = 1 := fun _ _ _ _ h => spR_len h (by intro as d h; first | (obtain ⟨_, rfl, _⟩ := h; rfl) | (obtain ⟨_, _, rfl, _⟩ := h; rfl) | (obtain ⟨_, _, _, rfl, _⟩ := h; rfl) | (obtain ⟨_, _, _, _, rfl, _⟩ := h; rfl))
theorem run_stones {K : PySem.W.Frag} {w : World} {vs : List V} {H : Hp} {Q : VK} {E : XK} (h : (sp_stones K) vs H Q E) : t_stones K w { nx := fun _ H' => Q .non H', rt := Q } (start n_stones vs) H :=
  spR_run h (by rw [len_stones _ _ _ _ h]; decide) fun as d hR E hK => by
    subst hK
    obtain ⟨ns, rfl, hz, rfl⟩ := hR
    exact (xs_stones ns hz).imp fun o e => by subst e; exact rfl
section
variable {P : Program} {w : World} {K : PySem.W.Frag} {mg : Str → Option Value} {base : Heap}
theorem ok_stones (F : Fd K mg "_law_stones" s_stones) (B : Bl mg) (C_cell : Cl P w K mg base 1 "_law_cell" (sp_cell K)) : Cl P w K mg base 2 "_law_stones" (sp_stones K) := by
  refine cl_of (k := 1) F sc_stones len_stones (fun _ _ _ _ _ _ us hl => match us, hl with | [_], _ => rfl) fun f cdv A outer s H vs Q E hr h => ⟨t_stones K w, ?_, run_stones h⟩
  exact (pss_cons (ps_set (i := 1) sc_stones.nd rfl (by first | exact Or.inl rfl | exact Or.inr rfl) (pe_cl C_cell hr (by decide) rfl (pa_cons (pv 0) (pa_cons pe_int pa_nil))))
    (pss_cons (ps_set (i := 2) sc_stones.nd rfl (by first | exact Or.inl rfl | exact Or.inr rfl) (pe_lst pa_nil))
    (pss_cons (ps_for PassesOwn.never rfl (pi_range1 (by rfl) B.b_range (pa_cons (pe_callB (call_max2 rfl) (by rfl) B.b_max (by decide +kernel) (pa_cons (pe_callB (call_min2 rfl) (by rfl) B.b_min (by decide +kernel) (pa_cons (pe_callB call_len (by rfl) B.b_len (by decide +kernel) (pa_cons (pv 0) pa_nil)) (pa_cons pe_int pa_nil))) (pa_cons (pe_op op_mod (pe_op op_fdiv (pv 1) pe_int) pe_int) pa_nil))) pa_nil)) (pg_name (i := 3) sc_stones.nd rfl (by first | exact Or.inl rfl | exact Or.inr rfl))
    (pss_cons (ps_set (i := 4) sc_stones.nd rfl (by first | exact Or.inl rfl | exact Or.inr rfl) (pe_cl C_cell hr (by decide) rfl (pa_cons (pv 0) (pa_cons (pe_op op_add pe_int (pv 3)) pa_nil))))
    (pss_cons (ps_set (i := 5) sc_stones.nd rfl (by first | exact Or.inl rfl | exact Or.inr rfl) (pe_ix ix_list (pe_lst (pa_cons pe_int (pa_cons pe_int (pa_cons pe_int (pa_cons pe_int pa_nil))))) (pe_op op_mod (pe_op op_add (pe_op op_mod (pv 1) pe_int) (pe_op op_fdiv (pe_op op_mod (pe_op op_fdiv (pv 4) pe_int) pe_int) pe_int)) pe_int) (fun _ _ => rfl)))
    (pss_cons (ps_expr (pe_bm PySem.F.plainAttrs_list PySem.F.slot_list_append PySem.F.type_list_append mt_append (pv 2) (pa_cons (pe_tup (pa_cons (pe_op op_mod (pe_op op_fdiv (pv 4) pe_int) (pv 5)) (pa_cons (pe_op op_mod (pe_op op_fdiv (pe_cl C_cell hr (by decide) rfl (pa_cons (pv 0) (pa_cons (pe_op op_add pe_int (pv 3)) pa_nil))) pe_int) (pv 5)) pa_nil))) pa_nil)))
    (pss_one (ps_if (pt_cmpR op_eq (pe_op op_mod (pv 4) pe_int) pe_int (nomark _))
    (pss_one (ps_asg (pe_tup (pa_cons (pe_ix ix_tup (pe_ix ix_list (pv 2) (pv 3) (fun _ _ => rfl)) pe_int (fun _ _ => rfl)) (pa_cons (pe_ix ix_tup (pe_ix ix_list (pv 2) (pv 3) (fun _ _ => rfl)) pe_int (fun _ _ => rfl)) pa_nil))) (pg_sub (pv 2) (pv 3) set_list)))
    pss_nil))))))
    (pss_one (ps_ret (pv 2))))))
end
abbrev s_law_groups : Stmt := top 23
abbrev n_law_groups : List Str := ["_law_stones_here", "_law_left", "_law_found", "_law_group", "_law_numbers", "_law_more", "_law_place"]
theorem sc_law_groups : FnScope n_law_groups ["_law_stones_here"] (defScope s_law_groups) := ⟨rfl, rfl, rfl, by decide +kernel, rfl, by decide +kernel, by decide +kernel⟩
theorem len_law_groups {K : PySem.W.Frag} : ∀ vs H Q E, (sp_law_groups K) vs H Q E → vs.length = 1 := fun _ _ _ _ h => spF_len h (by intro as d h; first | (obtain ⟨_, rfl, _⟩ := h; rfl) | (obtain ⟨_, _, rfl, _⟩ := h; rfl) | (obtain ⟨_, _, _, rfl, _⟩ := h; rfl) | (obtain ⟨_, _, _, _, rfl, _⟩ := h; rfl))
theorem run_law_groups {K : PySem.W.Frag} {w : World} {vs : List V} {H : Hp} {Q : VK} {E : XK} (h : (sp_law_groups K) vs H Q E) : t_law_groups K w { nx := fun _ H' => Q .non H', rt := Q } (start n_law_groups vs) H :=
  spF_run h (by rw [len_law_groups _ _ _ _ h]; decide) fun as d hR E hK => by
    subst hK
    obtain ⟨ss, rfl, h1, rfl⟩ := hR
    exact (xs_law_groups ss h1).imp fun o e => e ▸ rfl
section
variable {P : Program} {w : World} {K : PySem.W.Frag} {mg : Str → Option Value} {base : Heap}
theorem ok_law_groups (F : Fd K mg "_law_groups" s_law_groups) (B : Bl mg) : Cl P w K mg base 1 "_law_groups" (sp_law_groups K) := by
  refine cl_of (k := 0) F sc_law_groups len_law_groups (fun _ _ _ _ _ _ us hl => match us, hl with | [_], _ => rfl) fun f cdv A outer s H vs Q E hr h => ⟨t_law_groups K w, ?_, run_law_groups h⟩
  exact (pss_cons (ps_set (i := 1) sc_law_groups.nd rfl (by first | exact Or.inl rfl | exact Or.inr rfl) (pe_listRg rfl (by rfl) B.b_list (prg_1 (by rfl) B.b_range (pe_callB call_len (by rfl) B.b_len (by decide +kernel) (pa_cons (pv 0) pa_nil)))))
    (pss_cons (ps_set (i := 2) sc_law_groups.nd rfl (by first | exact Or.inl rfl | exact Or.inr rfl) (pe_lst pa_nil))
    (pss_cons (ps_while PassesOwn.never (pt_cmpR (op_neD hr.units) (pv 1) (pe_lst pa_nil) (nomark _))
    (pss_cons (ps_set (i := 3) sc_law_groups.nd rfl (by first | exact Or.inl rfl | exact Or.inr rfl) (pe_lst (pa_cons (pe_bm PySem.F.plainAttrs_list PySem.F.slot_list_pop PySem.F.type_list_pop mt_popAt (pv 1) (pa_cons pe_int pa_nil)) pa_nil)))
    (pss_cons (ps_set (i := 4) sc_law_groups.nd rfl (by first | exact Or.inl rfl | exact Or.inr rfl) (pe_callTy call_list_of (by rfl) B.b_list (by decide +kernel) (pa_cons (pe_ix ix_list (pv 0) (pe_ix ix_list (pv 3) pe_int (fun _ _ => rfl)) (fun _ _ => rfl)) pa_nil)))
    (pss_cons (ps_set (i := 5) sc_law_groups.nd rfl (by first | exact Or.inl rfl | exact Or.inr rfl) (pe_lst (pa_cons pe_int pa_nil)))
    (pss_cons (ps_while PassesOwn.never (pt_cmpR (op_neD hr.units) (pv 5) (pe_lst pa_nil) (nomark _))
    (pss_cons (ps_setLc (i := 5) (own := [("_law_place", 6)]) (g := (gName 6)) rfl sc_law_groups.nd rfl rfl (sw_true rfl rfl rfl (by decide +kernel)) (pi_list (pv 1)) (blkOk_by (own := [("_law_place", 6)]) (N := n_law_groups) (sc := (defScope s_law_groups)) (by decide +kernel)) (fun _ _ _ _ _ => (pg_name (i := 6) sc_law_groups.nd rfl (by first | exact Or.inl rfl | exact Or.inr rfl))) (fun _ _ _ _ _ => (pts_one (PW.pt (pw_or (pt_cmpR op_in_seq (pe_ix ix_tup (pe_ix ix_list (pv 0) (pv 6) (fun _ _ => rfl)) pe_int (fun _ _ => rfl)) (pv 4) (by rfl)) (pw_or1 (pt_cmpR op_in_seq (pe_ix ix_tup (pe_ix ix_list (pv 0) (pv 6) (fun _ _ => rfl)) pe_int (fun _ _ => rfl)) (pv 4) (by rfl))))))) (fun _ _ _ _ _ => (pv 6)))
    (pss_cons (ps_for PassesOwn.never rfl (pi_list (pv 5)) (pg_name (i := 6) sc_law_groups.nd rfl (by first | exact Or.inl rfl | exact Or.inr rfl))
    (pss_cons (ps_expr (pe_bm PySem.F.plainAttrs_list PySem.F.slot_list_remove PySem.F.type_list_remove mt_remove (pv 1) (pa_cons (pv 6) pa_nil)))
    (pss_one (ps_set (i := 4) sc_law_groups.nd rfl (by first | exact Or.inl rfl | exact Or.inr rfl) (pe_op op_cat (pv 4) (pe_callTy call_list_of (by rfl) B.b_list (by decide +kernel) (pa_cons (pe_ix ix_list (pv 0) (pv 6) (fun _ _ => rfl)) pa_nil)))))))
    (pss_one (ps_set (i := 3) sc_law_groups.nd rfl (by first | exact Or.inl rfl | exact Or.inr rfl) (pe_op op_cat (pv 3) (pv 5)))))))
    (pss_one (ps_expr (pe_bm PySem.F.plainAttrs_list PySem.F.slot_list_append PySem.F.type_list_append mt_append (pv 2) (pa_cons (pe_callB cr_sortedI (by rfl) B.b_sorted (by decide +kernel) (pa_cons (pv 3) pa_nil)) pa_nil)))))))))
    (pss_one (ps_ret (pv 2))))))
end
abbrev s_law_odd : Stmt := top 24
abbrev n_law_odd : List Str := ["_law_stones_here", "_law_group", "_law_ends", "_law_place", "_law_number"]
theorem sc_law_odd : FnScope n_law_odd ["_law_stones_here", "_law_group"] (defScope s_law_odd) := ⟨rfl, rfl, rfl, by decide +kernel, rfl, by decide +kernel, by decide +kernel⟩
theorem len_law_odd {K : PySem.W.Frag} : ∀ vs H Q E, (sp_law_odd K) vs H Q E → vs.length = 2 := fun _ _ _ _ h => spF_len h (by intro as d h; first | (obtain ⟨_, rfl, _⟩ := h; rfl) | (obtain ⟨_, _, rfl, _⟩ := h; rfl) | (obtain ⟨_, _, _, rfl, _⟩ := h; rfl) | (obtain ⟨_, _, _, _, rfl, _⟩ := h; rfl))
theorem run_law_odd {K : PySem.W.Frag} {w : World} {vs : List V} {H : Hp} {Q : VK} {E : XK} (h : (sp_law_odd K) vs H Q E) : t_law_odd K w { nx := fun _ H' => Q .non H', rt := Q } (start n_law_odd vs) H :=
  spF_run h (by rw [len_law_odd _ _ _ _ h]; decide) fun as d hR E hK => by
    subst hK
    obtain ⟨ss, g, rfl, h1, h2, rfl⟩ := hR
    exact (xs_law_odd ss g h1 h2).imp fun o e => e ▸ rfl
section
variable {P : Program} {w : World} {K : PySem.W.Frag} {mg : Str → Option Value} {base : Heap}
theorem ok_law_odd (F : Fd K mg "_law_odd" s_law_odd) (B : Bl mg) : Cl P w K mg base 1 "_law_odd" (sp_law_odd K) := by
  refine cl_of (k := 0) F sc_law_odd len_law_odd (fun _ _ _ _ _ _ us hl => match us, hl with | [_, _], _ => rfl) fun f cdv A outer s H vs Q E hr h => ⟨t_law_odd K w, ?_, run_law_odd h⟩
  exact (pss_cons (ps_set (i := 2) sc_law_odd.nd rfl (by first | exact Or.inl rfl | exact Or.inr rfl) (pe_lst pa_nil))
    (pss_cons (ps_for PassesOwn.never rfl (pi_list (pv 1)) (pg_name (i := 3) sc_law_odd.nd rfl (by first | exact Or.inl rfl | exact Or.inr rfl))
    (pss_one (ps_set (i := 2) sc_law_odd.nd rfl (by first | exact Or.inl rfl | exact Or.inr rfl) (pe_op op_cat (pv 2) (pe_callTy call_list_of (by rfl) B.b_list (by decide +kernel) (pa_cons (pe_ix ix_list (pv 0) (pv 3) (fun _ _ => rfl)) pa_nil))))))
    (pss_one (ps_ret (pe_callB (cr_srtS rfl) (by rfl) B.b_sorted (by decide +kernel) (pa_cons (pe_callTy (cr_setL rfl) (by rfl) B.b_set (by decide +kernel) (pa_cons (pe_lc (own := [("_law_number", 4)]) (g := (gName 4)) rfl sc_law_odd.nd (pi_list (pv 2)) (blkOk_by (own := [("_law_number", 4)]) (N := n_law_odd) (sc := (defScope s_law_odd)) (by decide +kernel)) (fun _ _ _ _ _ => (pg_name (i := 4) sc_law_odd.nd rfl (by first | exact Or.inl rfl | exact Or.inr rfl))) (fun _ _ _ _ _ => (pts_one (pt_cmpR op_eq (pe_op op_mod (pe_bm PySem.F.plainAttrs_list PySem.F.slot_list_count PySem.F.type_list_count mt_lcount (pv 2) (pa_cons (pv 4) pa_nil)) pe_int) pe_int (nomark _)))) (fun _ _ _ _ _ => (pv 4))) pa_nil)) pa_nil))))))
end
abbrev s_law_fewest : Stmt := top 25
abbrev n_law_fewest : List Str := ["_law_stones_here", "_law_found", "_law_group"]
theorem sc_law_fewest : FnScope n_law_fewest ["_law_stones_here"] (defScope s_law_fewest) := ⟨rfl, rfl, rfl, by decide +kernel, rfl, by decide +kernel, by decide +kernel⟩
theorem len_law_fewest {K : PySem.W.Frag} : ∀ vs H Q E, (sp_law_fewest K) vs H Q E → vs.length = 1 := fun _ _ _ _ h => spR_len h (by intro as d h; first | (obtain ⟨_, rfl, _⟩ := h; rfl) | (obtain ⟨_, _, rfl, _⟩ := h; rfl) | (obtain ⟨_, _, _, rfl, _⟩ := h; rfl) | (obtain ⟨_, _, _, _, rfl, _⟩ := h; rfl))
theorem run_law_fewest {K : PySem.W.Frag} {w : World} {vs : List V} {H : Hp} {Q : VK} {E : XK} (h : (sp_law_fewest K) vs H Q E) : t_law_fewest K w { nx := fun _ H' => Q .non H', rt := Q } (start n_law_fewest vs) H :=
  spR_run h (by rw [len_law_fewest _ _ _ _ h]; decide) fun as d hR E hK => by
    subst hK
    obtain ⟨ss, rfl, h1, rfl⟩ := hR
    exact (xs_law_fewest ss h1).imp fun o e => by subst e; exact rfl
section
variable {P : Program} {w : World} {K : PySem.W.Frag} {mg : Str → Option Value} {base : Heap}
theorem ok_law_fewest (F : Fd K mg "_law_fewest" s_law_fewest) (B : Bl mg) (C_law_groups : Cl P w K mg base 1 "_law_groups" (sp_law_groups K)) (C_law_odd : Cl P w K mg base 1 "_law_odd" (sp_law_odd K)) : Cl P w K mg base 2 "_law_fewest" (sp_law_fewest K) := by
  refine cl_of (k := 1) F sc_law_fewest len_law_fewest (fun _ _ _ _ _ _ us hl => match us, hl with | [_], _ => rfl) fun f cdv A outer s H vs Q E hr h => ⟨t_law_fewest K w, ?_, run_law_fewest h⟩
  exact (pss_cons (ps_set (i := 1) sc_law_fewest.nd rfl (by first | exact Or.inl rfl | exact Or.inr rfl) pe_int)
    (pss_cons (ps_for PassesOwn.never rfl (pi_list (pe_cl C_law_groups hr (by decide) rfl (pa_cons (pv 0) pa_nil))) (pg_name (i := 2) sc_law_fewest.nd rfl (by first | exact Or.inl rfl | exact Or.inr rfl))
    (pss_one (ps_set (i := 1) sc_law_fewest.nd rfl (by first | exact Or.inl rfl | exact Or.inr rfl) (pe_op op_add (pv 1) (pe_callB (call_max2 rfl) (by rfl) B.b_max (by decide +kernel) (pa_cons pe_int (pa_cons (pe_op op_fdiv (pe_callB call_len (by rfl) B.b_len (by decide +kernel) (pa_cons (pe_cl C_law_odd hr (by decide) rfl (pa_cons (pv 0) (pa_cons (pv 2) pa_nil))) pa_nil)) pe_int) pa_nil)))))))
    (pss_one (ps_ret (pv 1)))))
end
abbrev s_law_lies : Stmt := top 26
abbrev n_law_lies : List Str := ["_law_stones_here", "_law_step", "_law_stone"]
theorem sc_law_lies : FnScope n_law_lies ["_law_stones_here", "_law_step"] (defScope s_law_lies) := ⟨rfl, rfl, rfl, by decide +kernel, rfl, by decide +kernel, by decide +kernel⟩
theorem len_law_lies {K : PySem.W.Frag} : ∀ vs H Q E, (sp_law_lies K) vs H Q E → vs.length = 2 := fun _ _ _ _ h => spR_len h (by intro as d h; first | (obtain ⟨_, rfl, _⟩ := h; rfl) | (obtain ⟨_, _, rfl, _⟩ := h; rfl) | (obtain ⟨_, _, _, rfl, _⟩ := h; rfl) | (obtain ⟨_, _, _, _, rfl, _⟩ := h; rfl))
theorem run_law_lies {K : PySem.W.Frag} {w : World} {vs : List V} {H : Hp} {Q : VK} {E : XK} (h : (sp_law_lies K) vs H Q E) : t_law_lies K w { nx := fun _ H' => Q .non H', rt := Q } (start n_law_lies vs) H :=
  spR_run h (by rw [len_law_lies _ _ _ _ h]; decide) fun as d hR E hK => by
    subst hK
    obtain ⟨ss, st, rfl, h1, rfl⟩ := hR
    exact (xs_law_lies ss st h1).imp fun o e => by subst e; exact rfl
section
variable {P : Program} {w : World} {K : PySem.W.Frag} {mg : Str → Option Value} {base : Heap}
theorem ok_law_lies (F : Fd K mg "_law_lies" s_law_lies) (B : Bl mg) : Cl P w K mg base 1 "_law_lies" (sp_law_lies K) := by
  refine cl_of (k := 0) F sc_law_lies len_law_lies (fun _ _ _ _ _ _ us hl => match us, hl with | [_, _], _ => rfl) fun f cdv A outer s H vs Q E hr h => ⟨t_law_lies K w, ?_, run_law_lies h⟩
  exact (pss_cons (ps_set (i := 2) sc_law_lies.nd rfl (by first | exact Or.inl rfl | exact Or.inr rfl) (pe_ix ix_list (pv 0) (pe_ix ix_tup (pv 1) pe_int (fun _ _ => rfl)) (fun _ _ => rfl)))
    (pss_one (ps_ret (pe_ix ix_list (pe_lst (pa_cons (pv 2) (pa_cons (pe_revT (pv 2)) pa_nil))) (pe_ix ix_tup (pv 1) pe_int (fun _ _ => rfl)) (fun _ _ => rfl)))))
end
abbrev s_law_chain : Stmt := top 27
abbrev n_law_chain : List Str := ["_law_stones_here", "_law_chain_here", "_law_step", "_law_lie", "_law_k", "_law_one"]
theorem sc_law_chain : FnScope n_law_chain ["_law_stones_here", "_law_chain_here"] (defScope s_law_chain) := ⟨rfl, rfl, rfl, by decide +kernel, rfl, by decide +kernel, by decide +kernel⟩
theorem len_law_chain {K : PySem.W.Frag} : ∀ vs H Q E, (sp_law_chain K) vs H Q E → vs.length = 2 := fun _ _ _ _ h => spR_len h (by intro as d h; first | (obtain ⟨_, rfl, _⟩ := h; rfl) | (obtain ⟨_, _, rfl, _⟩ := h; rfl) | (obtain ⟨_, _, _, rfl, _⟩ := h; rfl) | (obtain ⟨_, _, _, _, rfl, _⟩ := h; rfl))
theorem run_law_chain {K : PySem.W.Frag} {w : World} {vs : List V} {H : Hp} {Q : VK} {E : XK} (h : (sp_law_chain K) vs H Q E) : t_law_chain K w { nx := fun _ H' => Q .non H', rt := Q } (start n_law_chain vs) H :=
  spR_run h (by rw [len_law_chain _ _ _ _ h]; decide) fun as d hR E hK => by
    subst hK
    obtain ⟨ss, x, rfl, h1, rfl⟩ := hR
    exact (xs_law_chain ss x h1).imp fun o e => by subst e; exact rfl
section
variable {P : Program} {w : World} {K : PySem.W.Frag} {mg : Str → Option Value} {base : Heap}
theorem ok_law_chain (F : Fd K mg "_law_chain" s_law_chain) (B : Bl mg) (C_law_lies : Cl P w K mg base 1 "_law_lies" (sp_law_lies K)) : Cl P w K mg base 2 "_law_chain" (sp_law_chain K) := by
  refine cl_of (k := 1) F sc_law_chain len_law_chain (fun _ _ _ _ _ _ us hl => match us, hl with | [_, _], _ => rfl) fun f cdv A outer s H vs Q E hr h => ⟨t_law_chain K w, ?_, run_law_chain h⟩
  exact (pss_cons (ps_if (PW.pt (pw_or (pt_not (pt_val (pe_callB call_isi (by rfl) B.b_isinstance (by decide +kernel) (pa_cons (pv 1) (pa_cons (pe_bltn (by rfl) B.b_list (by decide +kernel) rfl) pa_nil))))) (pw_or1 (pt_cmpR (op_eqD hr.units) (pv 1) (pe_lst pa_nil) (nomark _)))))
    (pss_one (ps_ret pe_bl))
    pss_nil)
    (pss_cons (ps_for PassesOwn.never rfl (pi_list (pv 1)) (pg_name (i := 2) sc_law_chain.nd rfl (by first | exact Or.inl rfl | exact Or.inr rfl))
    (pss_cons (ps_if (PW.pt (pw_or (pt_not (pt_val (pe_callB call_isi (by rfl) B.b_isinstance (by decide +kernel) (pa_cons (pv 2) (pa_cons (pe_bltn (by rfl) B.b_tuple (by decide +kernel) rfl) pa_nil))))) (pw_or1 (pt_cmpR op_ne (pe_callB call_len (by rfl) B.b_len (by decide +kernel) (pa_cons (pv 2) pa_nil)) pe_int (nomark _)))))
    (pss_one (ps_ret pe_bl))
    pss_nil)
    (pss_cons (ps_if (pt_cmpR (op_neD hr.units) (pe_lc (own := [("_law_one", 5)]) (g := (gName 5)) rfl sc_law_chain.nd (pi_tup (pv 2)) (blkOk_by (own := [("_law_one", 5)]) (N := n_law_chain) (sc := (defScope s_law_chain)) (by decide +kernel)) (fun _ _ _ _ _ => (pg_name (i := 5) sc_law_chain.nd rfl (by first | exact Or.inl rfl | exact Or.inr rfl))) (fun _ _ _ _ _ => (pts_one (pt_not (pt_val (pe_callB call_isi (by rfl) B.b_isinstance (by decide +kernel) (pa_cons (pv 5) (pa_cons (pe_bltn (by rfl) B.b_int (by decide +kernel) rfl) pa_nil))))))) (fun _ _ _ _ _ => (pv 5))) (pe_lst pa_nil) (nomark _))
    (pss_one (ps_ret pe_bl))
    pss_nil)
    (pss_cons (ps_if (PW.pt (pw_or (pt_val (pe_callB call_isi (by rfl) B.b_isinstance (by decide +kernel) (pa_cons (pe_ix ix_tup (pv 2) pe_int (fun _ _ => rfl)) (pa_cons (pe_bltn (by rfl) B.b_bool (by decide +kernel) rfl) pa_nil)))) (pw_or1 (pt_val (pe_callB call_isi (by rfl) B.b_isinstance (by decide +kernel) (pa_cons (pe_ix ix_tup (pv 2) pe_int (fun _ _ => rfl)) (pa_cons (pe_bltn (by rfl) B.b_bool (by decide +kernel) rfl) pa_nil)))))))
    (pss_one (ps_ret pe_bl))
    pss_nil)
    (pss_cons (ps_if (pt_not (pt_chain op_le op_lt pe_int (pe_ix ix_tup (pv 2) pe_int (fun _ _ => rfl)) (pe_callB call_len (by rfl) B.b_len (by decide +kernel) (pa_cons (pv 0) pa_nil))))
    (pss_one (ps_ret pe_bl))
    pss_nil)
    (pss_one (ps_if (pt_cmpR op_notIn_seq (pe_ix ix_tup (pv 2) pe_int (fun _ _ => rfl)) (pe_lst (pa_cons pe_int (pa_cons pe_int pa_nil))) (by rfl))
    (pss_one (ps_ret pe_bl))
    pss_nil)))))))
    (pss_cons (ps_setLc (i := 3) (own := [("_law_step", 2)]) (g := (gName 2)) rfl sc_law_chain.nd rfl rfl (sw_true rfl rfl rfl (by decide +kernel)) (pi_list (pv 1)) (blkOk_by (own := [("_law_step", 2)]) (N := n_law_chain) (sc := (defScope s_law_chain)) (by decide +kernel)) (fun _ _ _ _ _ => (pg_name (i := 2) sc_law_chain.nd rfl (by first | exact Or.inl rfl | exact Or.inr rfl))) (fun _ _ _ _ _ => pts_nil) (fun _ _ _ _ _ => (pe_cl C_law_lies hr (by decide) rfl (pa_cons (pv 0) (pa_cons (pv 2) pa_nil)))))
    (pss_cons (ps_for PassesOwn.never rfl (pi_range2 (by rfl) B.b_range (pa_cons pe_int (pa_cons (pe_callB call_len (by rfl) B.b_len (by decide +kernel) (pa_cons (pv 3) pa_nil)) pa_nil))) (pg_name (i := 4) sc_law_chain.nd rfl (by first | exact Or.inl rfl | exact Or.inr rfl))
    (pss_one (ps_if (pt_cmpR op_ne (pe_ix ix_tup (pe_ix ix_list (pv 3) (pe_op op_sub (pv 4) pe_int) (fun _ _ => rfl)) pe_int (fun _ _ => rfl)) (pe_ix ix_tup (pe_ix ix_list (pv 3) (pv 4) (fun _ _ => rfl)) pe_int (fun _ _ => rfl)) (nomark _))
    (pss_one (ps_ret pe_bl))
    pss_nil)))
    (pss_one (ps_ret pe_bl))))))
end
abbrev s_law_is_laying : Stmt := top 28
abbrev n_law_is_laying : List Str := ["_law_stones_here", "_law_thing", "_law_places", "_law_chain_here", "_law_step"]
theorem sc_law_is_laying : FnScope n_law_is_laying ["_law_stones_here", "_law_thing"] (defScope s_law_is_laying) := ⟨rfl, rfl, rfl, by decide +kernel, rfl, by decide +kernel, by decide +kernel⟩
theorem len_law_is_laying {K : PySem.W.Frag} : ∀ vs H Q E, (sp_law_is_laying K) vs H Q E → vs.length = 2 := fun _ _ _ _ h => spR_len h (by intro as d h; first | (obtain ⟨_, rfl, _⟩ := h; rfl) | (obtain ⟨_, _, rfl, _⟩ := h; rfl) | (obtain ⟨_, _, _, rfl, _⟩ := h; rfl) | (obtain ⟨_, _, _, _, rfl, _⟩ := h; rfl))
theorem run_law_is_laying {K : PySem.W.Frag} {w : World} {vs : List V} {H : Hp} {Q : VK} {E : XK} (h : (sp_law_is_laying K) vs H Q E) : t_law_is_laying K w { nx := fun _ H' => Q .non H', rt := Q } (start n_law_is_laying vs) H :=
  spR_run h (by rw [len_law_is_laying _ _ _ _ h]; decide) fun as d hR E hK => by
    subst hK
    obtain ⟨ss, x, rfl, h1, h2, rfl⟩ := hR
    exact (xs_law_is_laying ss x h1 h2).imp fun o e => by subst e; exact rfl
section
variable {P : Program} {w : World} {K : PySem.W.Frag} {mg : Str → Option Value} {base : Heap}
theorem ok_law_is_laying (F : Fd K mg "_law_is_laying" s_law_is_laying) (B : Bl mg) (C_law_chain : Cl P w K mg base 2 "_law_chain" (sp_law_chain K)) : Cl P w K mg base 3 "_law_is_laying" (sp_law_is_laying K) := by
  refine cl_of (k := 2) F sc_law_is_laying len_law_is_laying (fun _ _ _ _ _ _ us hl => match us, hl with | [_, _], _ => rfl) fun f cdv A outer s H vs Q E hr h => ⟨t_law_is_laying K w, ?_, run_law_is_laying h⟩
  exact (pss_cons (ps_if (pt_not (pt_val (pe_callB call_isi (by rfl) B.b_isinstance (by decide +kernel) (pa_cons (pv 1) (pa_cons (pe_bltn (by rfl) B.b_list (by decide +kernel) rfl) pa_nil)))))
    (pss_one (ps_ret pe_bl))
    pss_nil)
    (pss_cons (ps_if (pt_cmpR (op_neD hr.units) (pe_lc (own := [("_law_chain_here", 3)]) (g := (gName 3)) rfl sc_law_is_laying.nd (pi_list (pv 1)) (blkOk_by (own := [("_law_chain_here", 3)]) (N := n_law_is_laying) (sc := (defScope s_law_is_laying)) (by decide +kernel)) (fun _ _ _ _ _ => (pg_name (i := 3) sc_law_is_laying.nd rfl (by first | exact Or.inl rfl | exact Or.inr rfl))) (fun _ _ _ _ _ => (pts_one (pt_not (pt_val (pe_cl C_law_chain hr (by decide) rfl (pa_cons (pv 0) (pa_cons (pv 3) pa_nil))))))) (fun _ _ _ _ _ => (pv 3))) (pe_lst pa_nil) (nomark _))
    (pss_one (ps_ret pe_bl))
    pss_nil)
    (pss_cons (ps_set (i := 2) sc_law_is_laying.nd rfl (by first | exact Or.inl rfl | exact Or.inr rfl) (pe_lst pa_nil))
    (pss_cons (ps_for PassesOwn.never rfl (pi_list (pv 1)) (pg_name (i := 3) sc_law_is_laying.nd rfl (by first | exact Or.inl rfl | exact Or.inr rfl))
    (pss_one (ps_set (i := 2) sc_law_is_laying.nd rfl (by first | exact Or.inl rfl | exact Or.inr rfl) (pe_op op_cat (pv 2) (pe_lc (own := [("_law_step", 4)]) (g := (gName 4)) rfl sc_law_is_laying.nd (pi_list (pv 3)) (blkOk_by (own := [("_law_step", 4)]) (N := n_law_is_laying) (sc := (defScope s_law_is_laying)) (by decide +kernel)) (fun _ _ _ _ _ => (pg_name (i := 4) sc_law_is_laying.nd rfl (by first | exact Or.inl rfl | exact Or.inr rfl))) (fun _ _ _ _ _ => pts_nil) (fun _ _ _ _ _ => (pe_ix ix_tup (pv 4) pe_int (fun _ _ => rfl))))))))
    (pss_one (ps_ret (pe_cmpR (op_eqD hr.units) (pe_callB cr_sortedI (by rfl) B.b_sorted (by decide +kernel) (pa_cons (pv 2) pa_nil)) (pe_listRg rfl (by rfl) B.b_list (prg_1 (by rfl) B.b_range (pe_callB call_len (by rfl) B.b_len (by decide +kernel) (pa_cons (pv 0) pa_nil)))) (nomark _))))))))
end
abbrev s_law_copy : Stmt := top 29
abbrev n_law_copy : List Str := ["_law_thing", "_law_one"]
theorem sc_law_copy : FnScope n_law_copy ["_law_thing"] (defScope s_law_copy) := ⟨rfl, rfl, rfl, by decide +kernel, rfl, by decide +kernel, by decide +kernel⟩
theorem len_law_copy {K : PySem.W.Frag} {n : Nat} : ∀ vs H Q E, (spB K (R_copy5 n)) vs H Q E → vs.length = 1 := fun _ _ _ _ h => spB_len h (by intro as r h; first | (match n, h with | 0, h => (obtain ⟨_, rfl, _⟩ := h; rfl) | 1, h => (obtain ⟨_, rfl, _⟩ := h; rfl) | 2, h => (obtain ⟨_, rfl, _⟩ := h; rfl)))
theorem run_law_copy {K : PySem.W.Frag} {w : World} {n : Nat} {vs : List V} {H : Hp} {Q : VK} {E : XK} (h : (spB K (R_copy5 n)) vs H Q E) : t_law_copy K w (spD K n) { nx := fun _ H' => Q .non H', rt := Q } (start n_law_copy vs) H :=
  spB_run h (by rw [len_law_copy _ _ _ _ h]; decide) fun as r hR hm E hK => by
    subst hK
    skip
    exact xs_copy5 n _ _ hR
section
variable {P : Program} {w : World} {K : PySem.W.Frag} {mg : Str → Option Value} {base : Heap}
theorem ok_law_copy (F : Fd K mg "_law_copy" s_law_copy) (B : Bl mg) : ∀ n, Cl P w K mg base (n + 1) "_law_copy" (spD K n)
  | 0 => cl_false F 1 ["_law_thing"] (fun _ _ _ _ _ _ us hl => match us, hl with | [_], _ => rfl)
  | n + 1 => by
    have REC := ok_law_copy F B n
    refine cl_of (k := n + 1) F sc_law_copy len_law_copy (fun _ _ _ _ _ _ us hl => match us, hl with | [_], _ => rfl) fun f cdv A outer s H vs Q E hr h => ⟨t_law_copy K w (spD K n), ?_, run_law_copy (n := n) (E := E) h⟩
    exact (pss_cons (ps_if (pt_val (pe_callB call_isi (by rfl) B.b_isinstance (by decide +kernel) (pa_cons (pv 0) (pa_cons (pe_bltn (by rfl) B.b_list (by decide +kernel) rfl) pa_nil))))
    (pss_one (ps_ret (pe_lc (own := [("_law_one", 1)]) (g := (gName 1)) rfl sc_law_copy.nd (pi_list (pv 0)) (blkOk_by (own := [("_law_one", 1)]) (N := n_law_copy) (sc := (defScope s_law_copy)) (by decide +kernel)) (fun _ _ _ _ _ => (pg_name (i := 1) sc_law_copy.nd rfl (by first | exact Or.inl rfl | exact Or.inr rfl))) (fun _ _ _ _ _ => pts_nil) (fun _ _ _ _ _ => (pe_cl REC hr (by omega) rfl (pa_cons (pv 1) pa_nil))))))
    pss_nil)
    (pss_one (ps_ret (pv 0))))
end
abbrev s_alike : Stmt := top 30
abbrev n_alike : List Str := ["_law_found", "_law_due", "_law_k"]
theorem sc_alike : FnScope n_alike ["_law_found", "_law_due"] (defScope s_alike) := ⟨rfl, rfl, rfl, by decide +kernel, rfl, by decide +kernel, by decide +kernel⟩
theorem len_alike {K : PySem.W.Frag} {n : Nat} : ∀ vs H Q E, (spR K (R_alike n)) vs H Q E → vs.length = 2 := fun _ _ _ _ h => spR_len h (by intro as d h; first | (obtain ⟨_, rfl, _⟩ := h; rfl) | (obtain ⟨_, _, rfl, _⟩ := h; rfl) | (obtain ⟨_, _, _, rfl, _⟩ := h; rfl) | (obtain ⟨_, _, _, _, rfl, _⟩ := h; rfl))
theorem run_alike {K : PySem.W.Frag} {w : World} {n : Nat} {vs : List V} {H : Hp} {Q : VK} {E : XK} (h : (spR K (R_alike n)) vs H Q E) : t_alike K w (spA K n) { nx := fun _ H' => Q .non H', rt := Q } (start n_alike vs) H :=
  spR_run h (by rw [len_alike _ _ _ _ h]; decide) fun as d hR E hK => by
    subst hK
    obtain ⟨x, rfl, hx, rfl⟩ := hR
    exact (xs_alike n x hx).imp fun o e => by subst e; exact rfl
section
variable {P : Program} {w : World} {K : PySem.W.Frag} {mg : Str → Option Value} {base : Heap}
theorem ok_alike (F : Fd K mg "_law_alike" s_alike) (B : Bl mg) : ∀ n, Cl P w K mg base (n + 1) "_law_alike" (spA K n)
  | 0 => cl_false F 1 ["_law_found", "_law_due"] (fun _ _ _ _ _ _ us hl => match us, hl with | [_, _], _ => rfl)
  | n + 1 => by
    have REC := ok_alike F B n
    refine cl_of (k := n + 1) F sc_alike len_alike (fun _ _ _ _ _ _ us hl => match us, hl with | [_, _], _ => rfl) fun f cdv A outer s H vs Q E hr h => ⟨t_alike K w (spA K n), ?_, run_alike (n := n) (E := E) h⟩
    exact (pss_cons (ps_if (pt_val (pe_callB call_isiT (by rfl) B.b_isinstance (by decide +kernel) (pa_cons (pv 1) (pa_cons (pe_tup (pa_cons (pe_bltn (by rfl) B.b_tuple (by decide +kernel) rfl) (pa_cons (pe_bltn (by rfl) B.b_list (by decide +kernel) rfl) pa_nil))) pa_nil))))
    (pss_cons (ps_if (PW.pt (pw_or (pt_cmpR op_ne (pe_callB call_isi (by rfl) B.b_isinstance (by decide +kernel) (pa_cons (pv 0) (pa_cons (pe_bltn (by rfl) B.b_tuple (by decide +kernel) rfl) pa_nil))) (pe_callB call_isi (by rfl) B.b_isinstance (by decide +kernel) (pa_cons (pv 1) (pa_cons (pe_bltn (by rfl) B.b_tuple (by decide +kernel) rfl) pa_nil))) (nomark _)) (pw_or1 (pt_cmpR op_ne (pe_callB call_isi (by rfl) B.b_isinstance (by decide +kernel) (pa_cons (pv 0) (pa_cons (pe_bltn (by rfl) B.b_list (by decide +kernel) rfl) pa_nil))) (pe_callB call_isi (by rfl) B.b_isinstance (by decide +kernel) (pa_cons (pv 1) (pa_cons (pe_bltn (by rfl) B.b_list (by decide +kernel) rfl) pa_nil))) (nomark _)))))
    (pss_one (ps_ret pe_bl))
    pss_nil)
    (pss_one (ps_ret (pe_and (pe_cmpR op_eq (pe_callB call_len (by rfl) B.b_len (by decide +kernel) (pa_cons (pv 0) pa_nil)) (pe_callB call_len (by rfl) B.b_len (by decide +kernel) (pa_cons (pv 1) pa_nil)) (nomark _)) (pe_one (pe_callB (cr_all rfl) (by rfl) B.b_all (by decide +kernel) (pa_cons (pe_lc (own := [("_law_k", 2)]) (g := (gName 2)) rfl sc_alike.nd (pi_range1 (by rfl) B.b_range (pa_cons (pe_callB call_len (by rfl) B.b_len (by decide +kernel) (pa_cons (pv 1) pa_nil)) pa_nil)) (blkOk_by (own := [("_law_k", 2)]) (N := n_alike) (sc := (defScope s_alike)) (by decide +kernel)) (fun _ _ _ _ _ => (pg_name (i := 2) sc_alike.nd rfl (by first | exact Or.inl rfl | exact Or.inr rfl))) (fun _ _ _ _ _ => pts_nil) (fun _ _ _ _ _ => (pe_cl REC hr (by omega) rfl (pa_cons (pe_ix ix_seq (pv 0) (pv 2) (fun _ _ => rfl)) (pa_cons (pe_ix ix_seq (pv 1) (pv 2) (fun _ _ => rfl)) pa_nil))))) pa_nil)))))))
    pss_nil)
    (pss_one (ps_ret (pe_and (pe_cmpR op_eq (pe_callB call_isi (by rfl) B.b_isinstance (by decide +kernel) (pa_cons (pv 0) (pa_cons (pe_bltn (by rfl) B.b_bool (by decide +kernel) rfl) pa_nil))) (pe_callB call_isi (by rfl) B.b_isinstance (by decide +kernel) (pa_cons (pv 1) (pa_cons (pe_bltn (by rfl) B.b_bool (by decide +kernel) rfl) pa_nil))) (nomark _)) (pe_one (pe_cmpR (op_eqD hr.units) (pv 0) (pv 1) (nomark _)))))))
end
abbrev s_law_closed : Stmt := top 31
abbrev n_law_closed : List Str := ["_law_stones_here", "_law_chain_here"]
theorem sc_law_closed : FnScope n_law_closed ["_law_stones_here", "_law_chain_here"] (defScope s_law_closed) := ⟨rfl, rfl, rfl, by decide +kernel, rfl, by decide +kernel, by decide +kernel⟩
theorem len_law_closed {K : PySem.W.Frag} : ∀ vs H Q E, (sp_law_closed K) vs H Q E → vs.length = 2 := fun _ _ _ _ h => spR_len h (by intro as d h; first | (obtain ⟨_, rfl, _⟩ := h; rfl) | (obtain ⟨_, _, rfl, _⟩ := h; rfl) | (obtain ⟨_, _, _, rfl, _⟩ := h; rfl) | (obtain ⟨_, _, _, _, rfl, _⟩ := h; rfl))
theorem run_law_closed {K : PySem.W.Frag} {w : World} {vs : List V} {H : Hp} {Q : VK} {E : XK} (h : (sp_law_closed K) vs H Q E) : t_law_closed K w { nx := fun _ H' => Q .non H', rt := Q } (start n_law_closed vs) H :=
  spR_run h (by rw [len_law_closed _ _ _ _ h]; decide) fun as d hR E hK => by
    subst hK
    obtain ⟨ss, c, rfl, h1, rfl⟩ := hR
    exact (xs_law_closed ss c h1).imp fun o e => by subst e; exact rfl
section
variable {P : Program} {w : World} {K : PySem.W.Frag} {mg : Str → Option Value} {base : Heap}
theorem ok_law_closed (F : Fd K mg "_law_closed" s_law_closed) (B : Bl mg) (C_law_lies : Cl P w K mg base 1 "_law_lies" (sp_law_lies K)) : Cl P w K mg base 2 "_law_closed" (sp_law_closed K) := by
  refine cl_of (k := 1) F sc_law_closed len_law_closed (fun _ _ _ _ _ _ us hl => match us, hl with | [_, _], _ => rfl) fun f cdv A outer s H vs Q E hr h => ⟨t_law_closed K w, ?_, run_law_closed h⟩
  exact (pss_one (ps_ret (pe_cmpR op_eq (pe_ix ix_tup (pe_cl C_law_lies hr (by decide) rfl (pa_cons (pv 0) (pa_cons (pe_ix ix_list (pv 1) (pe_un un_neg pe_int) (fun _ _ => rfl)) pa_nil))) pe_int (fun _ _ => rfl)) (pe_ix ix_tup (pe_cl C_law_lies hr (by decide) rfl (pa_cons (pv 0) (pa_cons (pe_ix ix_list (pv 1) pe_int (fun _ _ => rfl)) pa_nil))) pe_int (fun _ _ => rfl)) (nomark _))))
end
abbrev s_law_right : Stmt := top 32
abbrev n_law_right : List Str := ["_law_stones_here", "_law_found", "_law_group", "_law_here", "_law_even", "_law_kept", "_law_chain_here"]
theorem sc_law_right : FnScope n_law_right ["_law_stones_here"] (defScope s_law_right) := ⟨rfl, rfl, rfl, by decide +kernel, rfl, by decide +kernel, by decide +kernel⟩
theorem len_law_right {K : PySem.W.Frag} {cR : Addr} : ∀ vs H Q E, (sp_law_right K cR) vs H Q E → vs.length = 1 := fun _ _ _ _ h => spR_len h (by intro as d h; first | (obtain ⟨_, rfl, _⟩ := h; rfl) | (obtain ⟨_, _, rfl, _⟩ := h; rfl) | (obtain ⟨_, _, _, rfl, _⟩ := h; rfl) | (obtain ⟨_, _, _, _, rfl, _⟩ := h; rfl))
theorem run_law_right {K : PySem.W.Frag} {w : World} {mg : Str → Option Value} {cR : Addr} (TT : RoadT K mg cR) {vs : List V} {H : Hp} {Q : VK} {E : XK} (h : (sp_law_right K cR) vs H Q E) : t_law_right K w cR { nx := fun _ H' => Q .non H', rt := Q } (start n_law_right vs) H :=
  spR_run h (by rw [len_law_right _ _ _ _ h]; decide) fun as d hR E hK => by
    subst hK
    obtain ⟨ss, rfl, h1, rfl⟩ := hR
    exact (xs_law_right ss h1).imp fun o e => by subst e; exact rfl
section
variable {P : Program} {w : World} {K : PySem.W.Frag} {mg : Str → Option Value} {base : Heap}
theorem ok_law_right (F : Fd K mg "_law_right" s_law_right) (B : Bl mg) {cR : Addr} (TT : RoadT K mg cR) (C_laid : Cl P w K mg base 6 "laid" (sp_laid K cR)) (C_law_is_laying : Cl P w K mg base 3 "_law_is_laying" (sp_law_is_laying K)) (C_law_fewest : Cl P w K mg base 2 "_law_fewest" (sp_law_fewest K)) (C_law_groups : Cl P w K mg base 1 "_law_groups" (sp_law_groups K)) (C_law_odd : Cl P w K mg base 1 "_law_odd" (sp_law_odd K)) (C_law_closed : Cl P w K mg base 2 "_law_closed" (sp_law_closed K)) (C_law_copy : Cl P w K mg base 4 "_law_copy" (spD K 3)) (C_alike : Cl P w K mg base 6 "_law_alike" (spA K 5)) : Cl P w K mg base 7 "_law_right" (sp_law_right K cR) := by
  refine cl_of (k := 6) F sc_law_right len_law_right (fun _ _ _ _ _ _ us hl => match us, hl with | [_], _ => rfl) fun f cdv A outer s H vs Q E hr h => ⟨t_law_right K w cR, ?_, run_law_right TT h⟩
  exact (pss_cons (ps_set (i := 1) sc_law_right.nd rfl (by first | exact Or.inl rfl | exact Or.inr rfl) (pe_cl C_laid hr (by decide) rfl (pa_cons (pv 0) pa_nil)))
    (pss_cons (ps_if (PW.pt (pw_or (pt_not (pt_val (pe_cl C_law_is_laying hr (by decide) rfl (pa_cons (pv 0) (pa_cons (pv 1) pa_nil))))) (pw_or1 (pt_cmpR op_ne (pe_callB call_len (by rfl) B.b_len (by decide +kernel) (pa_cons (pv 1) pa_nil)) (pe_cl C_law_fewest hr (by decide) rfl (pa_cons (pv 0) pa_nil)) (nomark _)))))
    (pss_one (ps_ret pe_bl))
    pss_nil)
    (pss_cons (ps_for PassesOwn.never rfl (pi_list (pe_cl C_law_groups hr (by decide) rfl (pa_cons (pv 0) pa_nil))) (pg_name (i := 2) sc_law_right.nd rfl (by first | exact Or.inl rfl | exact Or.inr rfl))
    (pss_cons (ps_setLc (i := 3) (own := [("_law_chain_here", 6)]) (g := (gName 6)) rfl sc_law_right.nd rfl rfl (sw_true rfl rfl rfl (by decide +kernel)) (pi_list (pv 1)) (blkOk_by (own := [("_law_chain_here", 6)]) (N := n_law_right) (sc := (defScope s_law_right)) (by decide +kernel)) (fun _ _ _ _ _ => (pg_name (i := 6) sc_law_right.nd rfl (by first | exact Or.inl rfl | exact Or.inr rfl))) (fun _ _ _ _ _ => (pts_one (pt_cmpR op_in_seq (pe_ix ix_tup (pe_ix ix_list (pv 6) pe_int (fun _ _ => rfl)) pe_int (fun _ _ => rfl)) (pv 2) (by rfl)))) (fun _ _ _ _ _ => (pv 6)))
    (pss_cons (ps_set (i := 4) sc_law_right.nd rfl (by first | exact Or.inl rfl | exact Or.inr rfl) (pe_cmpR (op_eqD hr.units) (pe_cl C_law_odd hr (by decide) rfl (pa_cons (pv 0) (pa_cons (pv 2) pa_nil))) (pe_lst pa_nil) (nomark _)))
    (pss_one (ps_if (pt_cmpR (op_neD hr.units) (pe_lc (own := [("_law_chain_here", 6)]) (g := (gName 6)) rfl sc_law_right.nd (pi_list (pv 3)) (blkOk_by (own := [("_law_chain_here", 6)]) (N := n_law_right) (sc := (defScope s_law_right)) (by decide +kernel)) (fun _ _ _ _ _ => (pg_name (i := 6) sc_law_right.nd rfl (by first | exact Or.inl rfl | exact Or.inr rfl))) (fun _ _ _ _ _ => (pts_one (pt_cmpR op_ne (pe_cl C_law_closed hr (by decide) rfl (pa_cons (pv 0) (pa_cons (pv 6) pa_nil))) (pv 4) (nomark _)))) (fun _ _ _ _ _ => (pv 6))) (pe_lst pa_nil) (nomark _))
    (pss_one (ps_ret pe_bl))
    pss_nil)))))
    (pss_cons (ps_set (i := 5) sc_law_right.nd rfl (by first | exact Or.inl rfl | exact Or.inr rfl) (pe_cl C_law_copy hr (by decide) rfl (pa_cons (pv 1) pa_nil)))
    (pss_cons (ps_for PassesOwn.never rfl (pi_list (pv 1)) (pg_name (i := 6) sc_law_right.nd rfl (by first | exact Or.inl rfl | exact Or.inr rfl))
    (pss_one (ps_expr (pe_bm PySem.F.plainAttrs_list PySem.F.slot_list_append PySem.F.type_list_append mt_append (pv 6) (pa_cons (pe_tup (pa_cons pe_int (pa_cons pe_int pa_nil))) pa_nil)))))
    (pss_cons (ps_expr (pe_bm PySem.F.plainAttrs_list PySem.F.slot_list_append PySem.F.type_list_append mt_append (pv 1) (pa_cons (pe_lst pa_nil) pa_nil)))
    (pss_one (ps_ret (pe_cl C_alike hr (by decide) rfl (pa_cons (pe_cl C_laid hr (by decide) rfl (pa_cons (pv 0) pa_nil)) (pa_cons (pv 5) pa_nil)))))))))))
end
abbrev s_law : Stmt := top 33
abbrev n_law : List Str := ["_law_script", "_law_stones_here", "_law_cell_here", "_law_at", "_law_some", "_law_twice"]
theorem sc_law : FnScope n_law ["_law_script"] (defScope s_law) := ⟨rfl, rfl, rfl, by decide +kernel, rfl, by decide +kernel, by decide +kernel⟩
theorem len_law {K : PySem.W.Frag} : ∀ vs H Q E, (spR K R_law) vs H Q E → vs.length = 1 := fun _ _ _ _ h => spR_len h (by intro as d h; first | (obtain ⟨_, rfl, _⟩ := h; rfl) | (obtain ⟨_, _, rfl, _⟩ := h; rfl) | (obtain ⟨_, _, _, rfl, _⟩ := h; rfl) | (obtain ⟨_, _, _, _, rfl, _⟩ := h; rfl))
theorem run_law {K : PySem.W.Frag} {w : World} {mg : Str → Option Value} {cR : Addr} (TT : RoadT K mg cR) {vs : List V} {H : Hp} {Q : VK} {E : XK} (h : (spR K R_law) vs H Q E) : t_law05 K w cR { nx := fun _ H' => Q .non H', rt := Q } (start n_law vs) H :=
  spR_run h (by rw [len_law _ _ _ _ h]; decide) fun as d hR E hK => by
    subst hK
    obtain ⟨ns, rfl, hz, rfl⟩ := hR
    exact (xs_law05 ns hz).imp fun o e => by subst e; exact rfl
section
variable {P : Program} {w : World} {K : PySem.W.Frag} {mg : Str → Option Value} {base : Heap}
theorem ok_law {f : Addr} {fd : FuncData} (F : Fun K "law" "law" s_law f fd) (B : Bl mg) {cR : Addr} (TT : RoadT K mg cR) (C_stones : Cl P w K mg base 2 "_law_stones" (sp_stones K)) (C_cell : Cl P w K mg base 1 "_law_cell" (sp_cell K)) (C_law_right : Cl P w K mg base 7 "_law_right" (sp_law_right K cR)) (C_laid : Cl P w K mg base 6 "laid" (sp_laid K cR)) : FnOk P w K mg base CX0 8 f fd ["_law_script"] (spR K R_law) := by
  refine F.ok (k := 7) sc_law len_law fun cdv A outer s H vs Q E hr h => ⟨t_law05 K w cR, ?_, run_law TT h⟩
  exact (pss_cons (ps_set (i := 1) sc_law.nd rfl (by first | exact Or.inl rfl | exact Or.inr rfl) (pe_cl C_stones hr (by decide) rfl (pa_cons (pv 0) pa_nil)))
    (pss_cons (ps_set (i := 2) sc_law.nd rfl (by first | exact Or.inl rfl | exact Or.inr rfl) (pe_cl C_cell hr (by decide) rfl (pa_cons (pv 0) (pa_cons pe_int pa_nil))))
    (pss_cons (ps_set (i := 3) sc_law.nd rfl (by first | exact Or.inl rfl | exact Or.inr rfl) (pe_op op_mod (pv 2) (pe_op op_add (pe_callB call_len (by rfl) B.b_len (by decide +kernel) (pa_cons (pv 1) pa_nil)) pe_int)))
    (pss_cons (ps_set (i := 4) sc_law.nd rfl (by first | exact Or.inl rfl | exact Or.inr rfl) (pe_op op_cat (pe_slice sl_list (pv 1) po_none (po_some (pv 3))) (pe_slice sl_list (pv 1) (po_some (pe_op op_add (pe_op op_add (pv 3) pe_int) (pe_op op_mod (pe_op op_fdiv (pv 2) pe_int) pe_int))) po_none)))
    (pss_cons (ps_set (i := 5) sc_law.nd rfl (by first | exact Or.inl rfl | exact Or.inr rfl) (pe_slice sl_list (pe_op op_cat (pv 4) (pv 4)) po_none (po_some pe_int)))
    (pss_one (ps_ret (pe_and (pe_cl C_law_right hr (by decide) rfl (pa_cons (pv 1) pa_nil)) (pe_and (pe_cl C_law_right hr (by decide) rfl (pa_cons (pv 4) pa_nil)) (pe_and (pe_cl C_law_right hr (by decide) rfl (pa_cons (pv 5) pa_nil)) (pe_one (pe_cmpR (op_eqD hr.units) (pe_cl C_laid hr (by decide) rfl (pa_cons (pe_lst pa_nil) pa_nil)) (pe_lst pa_nil) (nomark _)))))))))))))
end
theorem all_mk {P : Program} {w : World} {K : PySem.W.Frag} {h : Heap} {mg : Str → Option Value} {fa : Addr} (X : K.In h) (G : h.Ns mainGlobals mg) (hfa : mg "law" = some (.ref fa))
    {cR : Addr}
    {f0 : Addr} {od0 an0 : Option Addr} {sl0 : Array (Option Value)} {oc0 kV0 dc0 pm0 cd0 ct0 : Value}
    {f1 : Addr} {od1 an1 : Option Addr} {sl1 : Array (Option Value)} {oc1 kV1 dc1 pm1 cd1 ct1 : Value}
    {f2 : Addr} {od2 an2 : Option Addr} {sl2 : Array (Option Value)} {oc2 kV2 dc2 pm2 cd2 ct2 : Value}
    {f3 : Addr} {od3 an3 : Option Addr} {sl3 : Array (Option Value)} {oc3 kV3 dc3 pm3 cd3 ct3 : Value}
    {f4 : Addr} {od4 an4 : Option Addr} {sl4 : Array (Option Value)} {oc4 kV4 dc4 pm4 cd4 ct4 : Value}
    {f5 : Addr} {od5 an5 : Option Addr} {sl5 : Array (Option Value)} {oc5 kV5 dc5 pm5 cd5 ct5 : Value}
    {f6 : Addr} {od6 an6 : Option Addr} {sl6 : Array (Option Value)} {oc6 kV6 dc6 pm6 cd6 ct6 : Value}
    {f7 : Addr} {od7 an7 : Option Addr} {sl7 : Array (Option Value)} {oc7 kV7 dc7 pm7 cd7 ct7 : Value}
    {f8 : Addr} {od8 an8 : Option Addr} {sl8 : Array (Option Value)} {oc8 kV8 dc8 pm8 cd8 ct8 : Value}
    {f9 : Addr} {od9 an9 : Option Addr} {sl9 : Array (Option Value)} {oc9 kV9 dc9 pm9 cd9 ct9 : Value}
    {f10 : Addr} {od10 an10 : Option Addr} {sl10 : Array (Option Value)} {oc10 kV10 dc10 pm10 cd10 ct10 : Value}
    {f11 : Addr} {od11 an11 : Option Addr} {sl11 : Array (Option Value)} {oc11 kV11 dc11 pm11 cd11 ct11 : Value}
    {f12 : Addr} {od12 an12 : Option Addr} {sl12 : Array (Option Value)} {oc12 kV12 dc12 pm12 cd12 ct12 : Value}
    {f13 : Addr} {od13 an13 : Option Addr} {sl13 : Array (Option Value)} {oc13 kV13 dc13 pm13 cd13 ct13 : Value}
    {f14 : Addr} {od14 an14 : Option Addr} {sl14 : Array (Option Value)} {oc14 kV14 dc14 pm14 cd14 ct14 : Value}
    {f15 : Addr} {od15 an15 : Option Addr} {sl15 : Array (Option Value)} {oc15 kV15 dc15 pm15 cd15 ct15 : Value}
    {f16 : Addr} {od16 an16 : Option Addr} {sl16 : Array (Option Value)} {oc16 kV16 dc16 pm16 cd16 ct16 : Value}
    {f17 : Addr} {od17 an17 : Option Addr} {sl17 : Array (Option Value)} {oc17 kV17 dc17 pm17 cd17 ct17 : Value}
    {f18 : Addr} {od18 an18 : Option Addr} {sl18 : Array (Option Value)} {oc18 kV18 dc18 pm18 cd18 ct18 : Value}
    {f19 : Addr} {od19 an19 : Option Addr} {sl19 : Array (Option Value)} {oc19 kV19 dc19 pm19 cd19 ct19 : Value}
    {f20 : Addr} {od20 an20 : Option Addr} {sl20 : Array (Option Value)} {oc20 kV20 dc20 pm20 cd20 ct20 : Value}
    {f21 : Addr} {od21 an21 : Option Addr} {sl21 : Array (Option Value)} {oc21 kV21 dc21 pm21 cd21 ct21 : Value}
    {f22 : Addr} {od22 an22 : Option Addr} {sl22 : Array (Option Value)} {oc22 kV22 dc22 pm22 cd22 ct22 : Value}
    {f23 : Addr} {od23 an23 : Option Addr} {sl23 : Array (Option Value)} {oc23 kV23 dc23 pm23 cd23 ct23 : Value}
    {f24 : Addr} {od24 an24 : Option Addr} {sl24 : Array (Option Value)} {oc24 kV24 dc24 pm24 cd24 ct24 : Value}
    {f25 : Addr} {od25 an25 : Option Addr} {sl25 : Array (Option Value)} {oc25 kV25 dc25 pm25 cd25 ct25 : Value}
    {f26 : Addr} {od26 an26 : Option Addr} {sl26 : Array (Option Value)} {oc26 kV26 dc26 pm26 cd26 ct26 : Value}
    {t_MOST_STONES : Tok}
    {t_MOST_NUMBER : Tok}
    (a0 : PySem.W.nsIn K mainGlobals "is_whole" = some (some (.ref f0))) (l0 : K.lookup f0 = some ⟨oc0, od0, .func (PySem.W.fnOf "is_whole" "is_whole" (defArgs s_is_whole) (defBody s_is_whole) (defScope s_is_whole) .none kV0 dc0 pm0 an0 cd0 ct0), sl0⟩) (c0 : PySem.W.codeIn K cd0 "is_whole" = true) (k0 : PySem.W.keepIn K (.ref f0) = true)
    (a1 : PySem.W.nsIn K mainGlobals "is_stone" = some (some (.ref f1))) (l1 : K.lookup f1 = some ⟨oc1, od1, .func (PySem.W.fnOf "is_stone" "is_stone" (defArgs s_is_stone) (defBody s_is_stone) (defScope s_is_stone) .none kV1 dc1 pm1 an1 cd1 ct1), sl1⟩) (c1 : PySem.W.codeIn K cd1 "is_stone" = true) (k1 : PySem.W.keepIn K (.ref f1) = true)
    (a2 : PySem.W.nsIn K mainGlobals "need_stones" = some (some (.ref f2))) (l2 : K.lookup f2 = some ⟨oc2, od2, .func (PySem.W.fnOf "need_stones" "need_stones" (defArgs s_need_stones) (defBody s_need_stones) (defScope s_need_stones) .none kV2 dc2 pm2 an2 cd2 ct2), sl2⟩) (c2 : PySem.W.codeIn K cd2 "need_stones" = true) (k2 : PySem.W.keepIn K (.ref f2) = true)
    (a3 : PySem.W.nsIn K mainGlobals "joined" = some (some (.ref f3))) (l3 : K.lookup f3 = some ⟨oc3, od3, .func (PySem.W.fnOf "joined" "joined" (defArgs s_joined) (defBody s_joined) (defScope s_joined) .none kV3 dc3 pm3 an3 cd3 ct3), sl3⟩) (c3 : PySem.W.codeIn K cd3 "joined" = true) (k3 : PySem.W.keepIn K (.ref f3) = true)
    (a4 : PySem.W.nsIn K mainGlobals "groups" = some (some (.ref f4))) (l4 : K.lookup f4 = some ⟨oc4, od4, .func (PySem.W.fnOf "groups" "groups" (defArgs s_groups) (defBody s_groups) (defScope s_groups) .none kV4 dc4 pm4 an4 cd4 ct4), sl4⟩) (c4 : PySem.W.codeIn K cd4 "groups" = true) (k4 : PySem.W.keepIn K (.ref f4) = true)
    (a5 : PySem.W.nsIn K mainGlobals "counted" = some (some (.ref f5))) (l5 : K.lookup f5 = some ⟨oc5, od5, .func (PySem.W.fnOf "counted" "counted" (defArgs s_counted) (defBody s_counted) (defScope s_counted) .none kV5 dc5 pm5 an5 cd5 ct5), sl5⟩) (c5 : PySem.W.codeIn K cd5 "counted" = true) (k5 : PySem.W.keepIn K (.ref f5) = true)
    (a6 : PySem.W.nsIn K mainGlobals "odd_ends" = some (some (.ref f6))) (l6 : K.lookup f6 = some ⟨oc6, od6, .func (PySem.W.fnOf "odd_ends" "odd_ends" (defArgs s_odd_ends) (defBody s_odd_ends) (defScope s_odd_ends) .none kV6 dc6 pm6 an6 cd6 ct6), sl6⟩) (c6 : PySem.W.codeIn K cd6 "odd_ends" = true) (k6 : PySem.W.keepIn K (.ref f6) = true)
    (a7 : PySem.W.nsIn K mainGlobals "why" = some (some (.ref f7))) (l7 : K.lookup f7 = some ⟨oc7, od7, .func (PySem.W.fnOf "why" "why" (defArgs s_why) (defBody s_why) (defScope s_why) .none kV7 dc7 pm7 an7 cd7 ct7), sl7⟩) (c7 : PySem.W.codeIn K cd7 "why" = true) (k7 : PySem.W.keepIn K (.ref f7) = true)
    (a8 : PySem.W.findIn K (.ref cR) "__init__" = some (some (.ref f8))) (i8 : PySem.W.isFn K (.ref f8) = true) (l8 : K.lookup f8 = some ⟨oc8, od8, .func (PySem.W.fnOf "__init__" "Roads.__init__" (defArgs s_R_init) (defBody s_R_init) (defScope s_R_init) .none kV8 dc8 pm8 an8 cd8 ct8), sl8⟩) (c8 : PySem.W.codeIn K cd8 "Roads.__init__" = true) (k8 : PySem.W.keepIn K (.ref f8) = true)
    (a9 : PySem.W.findIn K (.ref cR) "next_at" = some (some (.ref f9))) (i9 : PySem.W.isFn K (.ref f9) = true) (l9 : K.lookup f9 = some ⟨oc9, od9, .func (PySem.W.fnOf "next_at" "Roads.next_at" (defArgs s_R_next_at) (defBody s_R_next_at) (defScope s_R_next_at) .none kV9 dc9 pm9 an9 cd9 ct9), sl9⟩) (c9 : PySem.W.codeIn K cd9 "Roads.next_at" = true) (k9 : PySem.W.keepIn K (.ref f9) = true)
    (a10 : PySem.W.findIn K (.ref cR) "walk" = some (some (.ref f10))) (i10 : PySem.W.isFn K (.ref f10) = true) (l10 : K.lookup f10 = some ⟨oc10, od10, .func (PySem.W.fnOf "walk" "Roads.walk" (defArgs s_R_walk) (defBody s_R_walk) (defScope s_R_walk) .none kV10 dc10 pm10 an10 cd10 ct10), sl10⟩) (c10 : PySem.W.codeIn K cd10 "Roads.walk" = true) (k10 : PySem.W.keepIn K (.ref f10) = true)
    (a11 : PySem.W.nsIn K mainGlobals "roads_of" = some (some (.ref f11))) (l11 : K.lookup f11 = some ⟨oc11, od11, .func (PySem.W.fnOf "roads_of" "roads_of" (defArgs s_roads_of) (defBody s_roads_of) (defScope s_roads_of) .none kV11 dc11 pm11 an11 cd11 ct11), sl11⟩) (c11 : PySem.W.codeIn K cd11 "roads_of" = true) (k11 : PySem.W.keepIn K (.ref f11) = true)
    (a12 : PySem.W.nsIn K mainGlobals "parted" = some (some (.ref f12))) (l12 : K.lookup f12 = some ⟨oc12, od12, .func (PySem.W.fnOf "parted" "parted" (defArgs s_parted) (defBody s_parted) (defScope s_parted) .none kV12 dc12 pm12 an12 cd12 ct12), sl12⟩) (c12 : PySem.W.codeIn K cd12 "parted" = true) (k12 : PySem.W.keepIn K (.ref f12) = true)
    (a13 : PySem.W.nsIn K mainGlobals "laid" = some (some (.ref f13))) (l13 : K.lookup f13 = some ⟨oc13, od13, .func (PySem.W.fnOf "laid" "laid" (defArgs s_laid) (defBody s_laid) (defScope s_laid) .none kV13 dc13 pm13 an13 cd13 ct13), sl13⟩) (c13 : PySem.W.codeIn K cd13 "laid" = true) (k13 : PySem.W.keepIn K (.ref f13) = true)
    (a14 : PySem.W.nsIn K mainGlobals "_law_cell" = some (some (.ref f14))) (l14 : K.lookup f14 = some ⟨oc14, od14, .func (PySem.W.fnOf "_law_cell" "_law_cell" (defArgs s_cell) (defBody s_cell) (defScope s_cell) .none kV14 dc14 pm14 an14 cd14 ct14), sl14⟩) (c14 : PySem.W.codeIn K cd14 "_law_cell" = true) (k14 : PySem.W.keepIn K (.ref f14) = true)
    (a15 : PySem.W.nsIn K mainGlobals "_law_stones" = some (some (.ref f15))) (l15 : K.lookup f15 = some ⟨oc15, od15, .func (PySem.W.fnOf "_law_stones" "_law_stones" (defArgs s_stones) (defBody s_stones) (defScope s_stones) .none kV15 dc15 pm15 an15 cd15 ct15), sl15⟩) (c15 : PySem.W.codeIn K cd15 "_law_stones" = true) (k15 : PySem.W.keepIn K (.ref f15) = true)
    (a16 : PySem.W.nsIn K mainGlobals "_law_groups" = some (some (.ref f16))) (l16 : K.lookup f16 = some ⟨oc16, od16, .func (PySem.W.fnOf "_law_groups" "_law_groups" (defArgs s_law_groups) (defBody s_law_groups) (defScope s_law_groups) .none kV16 dc16 pm16 an16 cd16 ct16), sl16⟩) (c16 : PySem.W.codeIn K cd16 "_law_groups" = true) (k16 : PySem.W.keepIn K (.ref f16) = true)
    (a17 : PySem.W.nsIn K mainGlobals "_law_odd" = some (some (.ref f17))) (l17 : K.lookup f17 = some ⟨oc17, od17, .func (PySem.W.fnOf "_law_odd" "_law_odd" (defArgs s_law_odd) (defBody s_law_odd) (defScope s_law_odd) .none kV17 dc17 pm17 an17 cd17 ct17), sl17⟩) (c17 : PySem.W.codeIn K cd17 "_law_odd" = true) (k17 : PySem.W.keepIn K (.ref f17) = true)
    (a18 : PySem.W.nsIn K mainGlobals "_law_fewest" = some (some (.ref f18))) (l18 : K.lookup f18 = some ⟨oc18, od18, .func (PySem.W.fnOf "_law_fewest" "_law_fewest" (defArgs s_law_fewest) (defBody s_law_fewest) (defScope s_law_fewest) .none kV18 dc18 pm18 an18 cd18 ct18), sl18⟩) (c18 : PySem.W.codeIn K cd18 "_law_fewest" = true) (k18 : PySem.W.keepIn K (.ref f18) = true)
    (a19 : PySem.W.nsIn K mainGlobals "_law_lies" = some (some (.ref f19))) (l19 : K.lookup f19 = some ⟨oc19, od19, .func (PySem.W.fnOf "_law_lies" "_law_lies" (defArgs s_law_lies) (defBody s_law_lies) (defScope s_law_lies) .none kV19 dc19 pm19 an19 cd19 ct19), sl19⟩) (c19 : PySem.W.codeIn K cd19 "_law_lies" = true) (k19 : PySem.W.keepIn K (.ref f19) = true)
    (a20 : PySem.W.nsIn K mainGlobals "_law_chain" = some (some (.ref f20))) (l20 : K.lookup f20 = some ⟨oc20, od20, .func (PySem.W.fnOf "_law_chain" "_law_chain" (defArgs s_law_chain) (defBody s_law_chain) (defScope s_law_chain) .none kV20 dc20 pm20 an20 cd20 ct20), sl20⟩) (c20 : PySem.W.codeIn K cd20 "_law_chain" = true) (k20 : PySem.W.keepIn K (.ref f20) = true)
    (a21 : PySem.W.nsIn K mainGlobals "_law_is_laying" = some (some (.ref f21))) (l21 : K.lookup f21 = some ⟨oc21, od21, .func (PySem.W.fnOf "_law_is_laying" "_law_is_laying" (defArgs s_law_is_laying) (defBody s_law_is_laying) (defScope s_law_is_laying) .none kV21 dc21 pm21 an21 cd21 ct21), sl21⟩) (c21 : PySem.W.codeIn K cd21 "_law_is_laying" = true) (k21 : PySem.W.keepIn K (.ref f21) = true)
    (a22 : PySem.W.nsIn K mainGlobals "_law_copy" = some (some (.ref f22))) (l22 : K.lookup f22 = some ⟨oc22, od22, .func (PySem.W.fnOf "_law_copy" "_law_copy" (defArgs s_law_copy) (defBody s_law_copy) (defScope s_law_copy) .none kV22 dc22 pm22 an22 cd22 ct22), sl22⟩) (c22 : PySem.W.codeIn K cd22 "_law_copy" = true) (k22 : PySem.W.keepIn K (.ref f22) = true)
    (a23 : PySem.W.nsIn K mainGlobals "_law_alike" = some (some (.ref f23))) (l23 : K.lookup f23 = some ⟨oc23, od23, .func (PySem.W.fnOf "_law_alike" "_law_alike" (defArgs s_alike) (defBody s_alike) (defScope s_alike) .none kV23 dc23 pm23 an23 cd23 ct23), sl23⟩) (c23 : PySem.W.codeIn K cd23 "_law_alike" = true) (k23 : PySem.W.keepIn K (.ref f23) = true)
    (a24 : PySem.W.nsIn K mainGlobals "_law_closed" = some (some (.ref f24))) (l24 : K.lookup f24 = some ⟨oc24, od24, .func (PySem.W.fnOf "_law_closed" "_law_closed" (defArgs s_law_closed) (defBody s_law_closed) (defScope s_law_closed) .none kV24 dc24 pm24 an24 cd24 ct24), sl24⟩) (c24 : PySem.W.codeIn K cd24 "_law_closed" = true) (k24 : PySem.W.keepIn K (.ref f24) = true)
    (a25 : PySem.W.nsIn K mainGlobals "_law_right" = some (some (.ref f25))) (l25 : K.lookup f25 = some ⟨oc25, od25, .func (PySem.W.fnOf "_law_right" "_law_right" (defArgs s_law_right) (defBody s_law_right) (defScope s_law_right) .none kV25 dc25 pm25 an25 cd25 ct25), sl25⟩) (c25 : PySem.W.codeIn K cd25 "_law_right" = true) (k25 : PySem.W.keepIn K (.ref f25) = true)
    (a26 : PySem.W.nsIn K mainGlobals "law" = some (some (.ref f26))) (l26 : K.lookup f26 = some ⟨oc26, od26, .func (PySem.W.fnOf "law" "law" (defArgs s_law) (defBody s_law) (defScope s_law) .none kV26 dc26 pm26 an26 cd26 ct26), sl26⟩) (c26 : PySem.W.codeIn K cd26 "law" = true) (k26 : PySem.W.keepIn K (.ref f26) = true)
    (b_all : PySem.W.nsIn K mainGlobals "all" = some none)
    (b_bool : PySem.W.nsIn K mainGlobals "bool" = some none)
    (b_enumerate : PySem.W.nsIn K mainGlobals "enumerate" = some none)
    (b_int : PySem.W.nsIn K mainGlobals "int" = some none)
    (b_isinstance : PySem.W.nsIn K mainGlobals "isinstance" = some none)
    (b_len : PySem.W.nsIn K mainGlobals "len" = some none)
    (b_list : PySem.W.nsIn K mainGlobals "list" = some none)
    (b_max : PySem.W.nsIn K mainGlobals "max" = some none)
    (b_min : PySem.W.nsIn K mainGlobals "min" = some none)
    (b_range : PySem.W.nsIn K mainGlobals "range" = some none)
    (b_set : PySem.W.nsIn K mainGlobals "set" = some none)
    (b_sorted : PySem.W.nsIn K mainGlobals "sorted" = some none)
    (b_tuple : PySem.W.nsIn K mainGlobals "tuple" = some none)
    (c_MOST_STONES : PySem.W.nsIn K mainGlobals "MOST_STONES" = some (some (.int 60 t_MOST_STONES)))
    (c_MOST_NUMBER : PySem.W.nsIn K mainGlobals "MOST_NUMBER" = some (some (.int 999999 t_MOST_NUMBER)))
    (aC : PySem.W.nsIn K mainGlobals "Roads" = some (some (.ref cR)))
    (pg : PySem.W.plainGet K cR Str.empty = true)
    (hd : PySem.W.hasDictIn K cR = true)
    (po : PySem.W.plainOver K cR = true)
    (sa : PySem.W.findIn K (.ref cR) "__setattr__" = some (some (.builtin "object.__setattr__")))
    (mk : PySem.W.makesIn K cR = true)
    (kc : PySem.W.keepIn K (.ref cR) = true)
    (n_roads : PySem.W.findIn K (.ref cR) "roads" = some none)
    (n_gone : PySem.W.findIn K (.ref cR) "gone" = some none)
    (n_waiting : PySem.W.findIn K (.ref cR) "waiting" = some none) :
    ∃ fd : FuncData, (∀ (s : Shared) (v : Value), BindsTo s fd ⟨[v], []⟩ [("_law_script", v)]) ∧ ∀ base : Heap, K.In base → base.Ns mainGlobals mg → FnOk P w K mg base CX0 8 fa fd ["_law_script"] (spR K R_law) := by
  have e := hfa.symm.trans (PySem.W.mg_of X G a26)
  cases e
  have B : Bl mg := { b_all := PySem.W.mg_none_of X G b_all, b_bool := PySem.W.mg_none_of X G b_bool, b_enumerate := PySem.W.mg_none_of X G b_enumerate, b_int := PySem.W.mg_none_of X G b_int, b_isinstance := PySem.W.mg_none_of X G b_isinstance, b_len := PySem.W.mg_none_of X G b_len, b_list := PySem.W.mg_none_of X G b_list, b_max := PySem.W.mg_none_of X G b_max, b_min := PySem.W.mg_none_of X G b_min, b_range := PySem.W.mg_none_of X G b_range, b_set := PySem.W.mg_none_of X G b_set, b_sorted := PySem.W.mg_none_of X G b_sorted, b_tuple := PySem.W.mg_none_of X G b_tuple, t_MOST_STONES := t_MOST_STONES, c_MOST_STONES := PySem.W.mg_of X G c_MOST_STONES, t_MOST_NUMBER := t_MOST_NUMBER, c_MOST_NUMBER := PySem.W.mg_of X G c_MOST_NUMBER }
  have TT : RoadT K mg cR := ⟨⟨pg, hd, po, sa⟩, n_roads, n_gone, n_waiting, PySem.W.mg_of X G aC⟩
  have FL := fun_mk (x := "law") (st := s_law) l26 c26 k26
  refine ⟨PySem.W.fnOf "law" "law" (defArgs s_law) (defBody s_law) (defScope s_law) .none kV26 dc26 pm26 an26 cd26 ct26, fun s v => .of_eq rfl, fun base _ _ => ?_⟩
  have C_is_whole := ok_is_whole (P := P) (w := w) (base := base) (fd_mk (x := "is_whole") (st := s_is_whole) X G a0 l0 c0 k0) B 
  have C_is_stone := ok_is_stone (P := P) (w := w) (base := base) (fd_mk (x := "is_stone") (st := s_is_stone) X G a1 l1 c1 k1) B C_is_whole
  have C_need_stones := ok_need_stones (P := P) (w := w) (base := base) (fd_mk (x := "need_stones") (st := s_need_stones) X G a2 l2 c2 k2) B C_is_stone
  have C_joined := ok_joined (P := P) (w := w) (base := base) (fd_mk (x := "joined") (st := s_joined) X G a3 l3 c3 k3) B 
  have C_groups := ok_groups (P := P) (w := w) (base := base) (fd_mk (x := "groups") (st := s_groups) X G a4 l4 c4 k4) B C_need_stones C_joined
  have C_counted := ok_counted (P := P) (w := w) (base := base) (fd_mk (x := "counted") (st := s_counted) X G a5 l5 c5 k5) B 
  have C_odd_ends := ok_odd_ends (P := P) (w := w) (base := base) (fd_mk (x := "odd_ends") (st := s_odd_ends) X G a6 l6 c6 k6) B C_need_stones C_counted
  have C_why := ok_why (P := P) (w := w) (base := base) (fd_mk (x := "why") (st := s_why) X G a7 l7 c7 k7) B C_groups C_odd_ends
  have C_R_init := ok_R_init (P := P) (w := w) (base := base) TT (fdM_mk (x := "__init__") (qual := "Roads.__init__") (st := s_R_init) a8 i8 l8 c8 k8) mk kc B
  have C_R_next_at := ok_R_next_at (P := P) (w := w) (base := base) B TT  (fdM_mk (x := "next_at") (qual := "Roads.next_at") (st := s_R_next_at) a9 i9 l9 c9 k9)
  have C_R_walk := ok_R_walk (P := P) (w := w) (base := base) B TT C_R_next_at (fdM_mk (x := "walk") (qual := "Roads.walk") (st := s_R_walk) a10 i10 l10 c10 k10)
  have C_roads_of := ok_roads_of (P := P) (w := w) (base := base) (fd_mk (x := "roads_of") (st := s_roads_of) X G a11 l11 c11 k11) B 
  have C_parted := ok_parted (P := P) (w := w) (base := base) (fd_mk (x := "parted") (st := s_parted) X G a12 l12 c12 k12) B 
  have C_laid := ok_laid (P := P) (w := w) (base := base) (fd_mk (x := "laid") (st := s_laid) X G a13 l13 c13 k13) B TT C_why C_R_init C_roads_of C_R_walk C_parted
  have C_cell := ok_cell (P := P) (w := w) (base := base) (fd_mk (x := "_law_cell") (st := s_cell) X G a14 l14 c14 k14) B 
  have C_stones := ok_stones (P := P) (w := w) (base := base) (fd_mk (x := "_law_stones") (st := s_stones) X G a15 l15 c15 k15) B C_cell
  have C_law_groups := ok_law_groups (P := P) (w := w) (base := base) (fd_mk (x := "_law_groups") (st := s_law_groups) X G a16 l16 c16 k16) B 
  have C_law_odd := ok_law_odd (P := P) (w := w) (base := base) (fd_mk (x := "_law_odd") (st := s_law_odd) X G a17 l17 c17 k17) B 
  have C_law_fewest := ok_law_fewest (P := P) (w := w) (base := base) (fd_mk (x := "_law_fewest") (st := s_law_fewest) X G a18 l18 c18 k18) B C_law_groups C_law_odd
  have C_law_lies := ok_law_lies (P := P) (w := w) (base := base) (fd_mk (x := "_law_lies") (st := s_law_lies) X G a19 l19 c19 k19) B 
  have C_law_chain := ok_law_chain (P := P) (w := w) (base := base) (fd_mk (x := "_law_chain") (st := s_law_chain) X G a20 l20 c20 k20) B C_law_lies
  have C_law_is_laying := ok_law_is_laying (P := P) (w := w) (base := base) (fd_mk (x := "_law_is_laying") (st := s_law_is_laying) X G a21 l21 c21 k21) B C_law_chain
  have C_law_copy := ok_law_copy (P := P) (w := w) (base := base) (fd_mk (x := "_law_copy") (st := s_law_copy) X G a22 l22 c22 k22) B 3
  have C_alike := ok_alike (P := P) (w := w) (base := base) (fd_mk (x := "_law_alike") (st := s_alike) X G a23 l23 c23 k23) B 5
  have C_law_closed := ok_law_closed (P := P) (w := w) (base := base) (fd_mk (x := "_law_closed") (st := s_law_closed) X G a24 l24 c24 k24) B C_law_lies
  have C_law_right := ok_law_right (P := P) (w := w) (base := base) (fd_mk (x := "_law_right") (st := s_law_right) X G a25 l25 c25 k25) B TT C_laid C_law_is_laying C_law_fewest C_law_groups C_law_odd C_law_closed C_law_copy C_alike
  exact ok_law FL B TT C_stones C_cell C_law_right C_laid
theorem walk {l : PySem.W.OpenLaw} {q : Program} {loose : List Str} {XP : (Str → Option Value) → Heap → Prop} {YP : World → Heap → Prop} {d : DefRec} {K : Params → PySem.W.Frag} (hn : l.most = some 63) (hdf : d.params.defaults = [])
    (hY : ∀ (w : World) (h : Heap), YP w h → (K w.params).In h)
    (F : ∀ (w : World) (mg : Str → Option Value) (fa : Addr) (h : Heap), (K w.params).In h → h.Ns mainGlobals mg → mg d.name = some (.ref fa) →
      ∃ fd : FuncData, (∀ (s : Shared) (u : Value), BindsTo s fd ⟨[u], []⟩ [("_law_script", u)]) ∧ ∀ base : Heap, (K w.params).In base → base.Ns mainGlobals mg → FnOk l.prog w (K w.params) mg base CX0 8 fa fd ["_law_script"] (spR (K w.params) R_law)) :
    PySem.W.WalkO q loose XP YP l.row.toRowW d [] (fun f vs => PySem.call f vs) :=
  L2.walk_of (n := 63) (k := 8) (x := "_law_script") (CX := fun _ => CX0) (sp := fun w => spR (K w.params) R_law) hn (by decide) hdf ⟨rfl, by decide, by decide⟩ hY F
    (fun _ _ a ns hl _ hS => ⟨none0, [.s ns], .bool true, fun _ _ z => (nomatch z), ⟨_, [], rfl, ⟨a, rfl, hS⟩, rfl⟩, ⟨ns, rfl, hl, rfl⟩, fun _ _ _ _ r => r⟩) fun _ _ _ _ _ z => z
end PL
open PySem PySem.W PyProof.Rows
set_option maxRecDepth 100000 in
set_option maxHeartbeats 0 in
theorem PySem.Challenge.cw_stonerow_k05_whole_laid_holds : PySem.Challenge.rw_stonerow_k05_whole_laid.Holds := by
  w_on; o_law; k_head; (case hw => w_witness2)
  k_fill
  refine PL.walk (l := PySem.Challenge.rw_stonerow_k05_whole_laid) rfl rfl (fun w h Y => PySem.W.kIn_of Y) ?F
  case F =>
    intro w mg fa h KX G hmg
    refine' PL.all_mk KX G hmg ?a0 ?l0 ?c0 ?k0 ?a1 ?l1 ?c1 ?k1 ?a2 ?l2 ?c2 ?k2 ?a3 ?l3 ?c3 ?k3 ?a4 ?l4 ?c4 ?k4 ?a5 ?l5 ?c5 ?k5 ?a6 ?l6 ?c6 ?k6 ?a7 ?l7 ?c7 ?k7 ?a8 ?i8 ?l8 ?c8 ?k8 ?a9 ?i9 ?l9 ?c9 ?k9 ?a10 ?i10 ?l10 ?c10 ?k10 ?a11 ?l11 ?c11 ?k11 ?a12 ?l12 ?c12 ?k12 ?a13 ?l13 ?c13 ?k13 ?a14 ?l14 ?c14 ?k14 ?a15 ?l15 ?c15 ?k15 ?a16 ?l16 ?c16 ?k16 ?a17 ?l17 ?c17 ?k17 ?a18 ?l18 ?c18 ?k18 ?a19 ?l19 ?c19 ?k19 ?a20 ?l20 ?c20 ?k20 ?a21 ?l21 ?c21 ?k21 ?a22 ?l22 ?c22 ?k22 ?a23 ?l23 ?c23 ?k23 ?a24 ?l24 ?c24 ?k24 ?a25 ?l25 ?c25 ?k25 ?a26 ?l26 ?c26 ?k26 ?b_all ?b_bool ?b_enumerate ?b_int ?b_isinstance ?b_len ?b_list ?b_max ?b_min ?b_range ?b_set ?b_sorted ?b_tuple ?c_MOST_STONES ?c_MOST_NUMBER ?aC ?pg ?hd ?po ?sa ?mk ?kc ?n_roads ?n_gone ?n_waiting
    (case aC => k_is)
    (case a0 => k_is)
    (case l0 => k_is)
    (case c0 => k_is)
    (case k0 => k_is)
    (case a1 => k_is)
    (case l1 => k_is)
    (case c1 => k_is)
    (case k1 => k_is)
    (case a2 => k_is)
    (case l2 => k_is)
    (case c2 => k_is)
    (case k2 => k_is)
    (case a3 => k_is)
    (case l3 => k_is)
    (case c3 => k_is)
    (case k3 => k_is)
    (case a4 => k_is)
    (case l4 => k_is)
    (case c4 => k_is)
    (case k4 => k_is)
    (case a5 => k_is)
    (case l5 => k_is)
    (case c5 => k_is)
    (case k5 => k_is)
    (case a6 => k_is)
    (case l6 => k_is)
    (case c6 => k_is)
    (case k6 => k_is)
    (case a7 => k_is)
    (case l7 => k_is)
    (case c7 => k_is)
    (case k7 => k_is)
    (case a8 => k_is)
    (case i8 => k_is)
    (case l8 => k_is)
    (case c8 => k_is)
    (case k8 => k_is)
    (case a9 => k_is)
    (case i9 => k_is)
    (case l9 => k_is)
    (case c9 => k_is)
    (case k9 => k_is)
    (case a10 => k_is)
    (case i10 => k_is)
    (case l10 => k_is)
    (case c10 => k_is)
    (case k10 => k_is)
    (case a11 => k_is)
    (case l11 => k_is)
    (case c11 => k_is)
    (case k11 => k_is)
    (case a12 => k_is)
    (case l12 => k_is)
    (case c12 => k_is)
    (case k12 => k_is)
    (case a13 => k_is)
    (case l13 => k_is)
    (case c13 => k_is)
    (case k13 => k_is)
    (case a14 => k_is)
    (case l14 => k_is)
    (case c14 => k_is)
    (case k14 => k_is)
    (case a15 => k_is)
    (case l15 => k_is)
    (case c15 => k_is)
    (case k15 => k_is)
    (case a16 => k_is)
    (case l16 => k_is)
    (case c16 => k_is)
    (case k16 => k_is)
    (case a17 => k_is)
    (case l17 => k_is)
    (case c17 => k_is)
    (case k17 => k_is)
    (case a18 => k_is)
    (case l18 => k_is)
    (case c18 => k_is)
    (case k18 => k_is)
    (case a19 => k_is)
    (case l19 => k_is)
    (case c19 => k_is)
    (case k19 => k_is)
    (case a20 => k_is)
    (case l20 => k_is)
    (case c20 => k_is)
    (case k20 => k_is)
    (case a21 => k_is)
    (case l21 => k_is)
    (case c21 => k_is)
    (case k21 => k_is)
    (case a22 => k_is)
    (case l22 => k_is)
    (case c22 => k_is)
    (case k22 => k_is)
    (case a23 => k_is)
    (case l23 => k_is)
    (case c23 => k_is)
    (case k23 => k_is)
    (case a24 => k_is)
    (case l24 => k_is)
    (case c24 => k_is)
    (case k24 => k_is)
    (case a25 => k_is)
    (case l25 => k_is)
    (case c25 => k_is)
    (case k25 => k_is)
    (case a26 => k_is)
    (case l26 => k_is)
    (case c26 => k_is)
    (case k26 => k_is)
    (case b_all => k_is)
    (case b_bool => k_is)
    (case b_enumerate => k_is)
    (case b_int => k_is)
    (case b_isinstance => k_is)
    (case b_len => k_is)
    (case b_list => k_is)
    (case b_max => k_is)
    (case b_min => k_is)
    (case b_range => k_is)
    (case b_set => k_is)
    (case b_sorted => k_is)
    (case b_tuple => k_is)
    (case c_MOST_STONES => k_is)
    (case c_MOST_NUMBER => k_is)
    (case pg => k_is)
    (case hd => k_is)
    (case po => k_is)
    (case sa => k_is)
    (case mk => k_is)
    (case kc => k_is)
    (case n_roads => k_is)
    (case n_gone => k_is)
    (case n_waiting => k_is)
#print axioms PySem.Challenge.cw_stonerow_k05_whole_laid_holds
