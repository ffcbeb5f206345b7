import PyProof.Rows.All
import Wide.All
import OpenK.AllK
import Wide.FinOn
import HandS.ForMost
import HandS.IsInst
import HandS.Wide
import HandS.WideBits
import HandS.TupAny
import HandS.SetFor
import HandS.Strs
import HandS.SortInts
import HandS.Conv
import HandS.EndBits
import PySem.Challenge.RW_macrohouse_k21_numbers_of_sets
set_option Elab.async false
set_option linter.all false
set_option maxRecDepth 100000
set_option maxHeartbeats 4000000
set_option autoImplicit false
namespace Pu
open PySem PySem.Spec PyProof.Rows L2

/-! ### data without addresses -/
inductive Dat where
  | non
  | bl (b : Bool)
  | int (i : Int)
  | str (x : Str)
  | tup (xs : List Dat)
  | lst (xs : List Dat)
  | ins (C : Addr) (ks : List Str) (vs : List Dat)
  | dic (ks : List Key) (vs : List Dat)
  | dit (ks : List (List Key)) (vs : List Dat)
  | ty (n : String)
  | cls (C : Addr)

mutual
/-- in the standing part G the value v is the datum -/
inductive R (K : PySem.W.Frag) (G : Hp) : V → Dat → Prop
  | non : R K G .non .non
  | bl (b : Bool) : R K G (.bl b) (.bl b)
  | int (i : Int) : R K G (.int i) (.int i)
  | str (x : Str) : R K G (.str x) (.str x)
  | tup {a : Addr} {xs : List V} {ds : List Dat} : SqT K G a xs → RL K G xs ds → R K G (.ref a) (.tup ds)
  | lst {a : Addr} {xs : List V} {ds : List Dat} : SqL K G a xs → RL K G xs ds → R K G (.ref a) (.lst ds)
  | ins {a C dx : Addr} {fs : List (Str × V)} {ds : List Dat} : G a = some (.ins C dx fs) → RL K G (fs.map (·.2)) ds → R K G (.ref a) (.ins C (fs.map (·.1)) ds)
  | dic {a : Addr} {kvs : List (Key × V)} {ds : List Dat} : G a = some (.dK kvs) → RL K G (kvs.map (·.2)) ds → R K G (.ref a) (.dic (kvs.map (·.1)) ds)
  | dit {a : Addr} {kvs : List (List Key × V)} {ds : List Dat} : G a = some (.dT kvs) → RL K G (kvs.map (·.2)) ds → R K G (.ref a) (.dit (kvs.map (·.1)) ds)
  | ty (n : String) : R K G (.ty n) (.ty n)
  | cls (C : Addr) : R K G (.ref C) (.cls C)
inductive RL (K : PySem.W.Frag) (G : Hp) : List V → List Dat → Prop
  | nil : RL K G [] []
  | cons {v : V} {d : Dat} {vs : List V} {ds : List Dat} : R K G v d → RL K G vs ds → RL K G (v :: vs) (d :: ds)
end

theorem sameR {H H' : Hp} {a : Addr} {u : HO} (e : Same H H') (h : Rd H a u) : Rd H' a u := by
  rcases h with h | ⟨o, h⟩
  · exact .inl (e _ _ h)
  · exact .inr ⟨o, e _ _ h⟩
theorem sameT {K : PySem.W.Frag} {H H' : Hp} {a : Addr} {xs : List V} (e : Same H H') (h : SqT K H a xs) : SqT K H' a xs := by
  rcases h with (h | ⟨o, h⟩) | h
  · exact .inl (.inl (e _ _ h))
  · exact .inl (.inr ⟨o, e _ _ h⟩)
  · exact .inr h
section
variable {K : PySem.W.Frag} {G G' : Hp}
mutual
theorem R.mono (e : Same G G') : ∀ (d : Dat) (v : V), R K G v d → R K G' v d
  | .non, _, h => by cases h; exact .non
  | .bl b, _, h => by cases h; exact .bl b
  | .int i, _, h => by cases h; exact .int i
  | .str x, _, h => by cases h; exact .str x
  | .tup ds, _, h => by
    cases h with
    | tup q r => exact .tup (sameT e q) (RL.mono e ds _ r)
  | .lst ds, _, h => by
    cases h with
    | lst q r => exact .lst (e.seq q) (RL.mono e ds _ r)
  | .ins C ks ds, _, h => by
    cases h with
    | ins q r => exact .ins (e _ _ q) (RL.mono e ds _ r)
  | .dic ks ds, _, h => by
    cases h with
    | dic q r => exact .dic (e _ _ q) (RL.mono e ds _ r)
  | .dit ks ds, _, h => by
    cases h with
    | dit q r => exact .dit (e _ _ q) (RL.mono e ds _ r)
  | .ty n, _, h => by cases h; exact .ty n
  | .cls C, _, h => by cases h; exact .cls C
theorem RL.mono (e : Same G G') : ∀ (ds : List Dat) (vs : List V), RL K G vs ds → RL K G' vs ds
  | [], _, h => by cases h; exact .nil
  | d :: ds, _, h => by
    cases h with
    | cons q r => exact .cons (R.mono e d _ q) (RL.mono e ds _ r)
end
end
theorem R.up {K : PySem.W.Frag} {G G' : Hp} {v : V} {d : Dat} (h : R K G v d) (e : Same G G') : R K G' v d := R.mono e d v h
theorem RL.up {K : PySem.W.Frag} {G G' : Hp} {vs : List V} {ds : List Dat} (h : RL K G vs ds) (e : Same G G') : RL K G' vs ds := RL.mono e ds vs h
section
variable {K : PySem.W.Frag} {G : Hp}
theorem RL.len : ∀ {vs : List V} {ds : List Dat}, RL K G vs ds → vs.length = ds.length
  | [], _, h => by cases h; rfl
  | _ :: vs, _, h => by
    cases h with
    | cons _ r => simp [RL.len r]
theorem RL.get : ∀ {vs : List V} {ds : List Dat} {i : Nat} {v : V}, RL K G vs ds → vs[i]? = some v → ∃ d, ds[i]? = some d ∧ R K G v d
  | [], _, _, _, h, e => by simp at e
  | _ :: vs, _, 0, _, h, e => by
    cases h with
    | cons q r => simp at e; subst e; exact ⟨_, rfl, q⟩
  | _ :: vs, _, i + 1, _, h, e => by
    cases h with
    | cons q r =>
      obtain ⟨d, e1, q1⟩ := RL.get (i := i) r (by simpa using e)
      exact ⟨d, by simpa using e1, q1⟩
theorem RL.getD {vs : List V} {ds : List Dat} {i : Nat} {d : Dat} (h : RL K G vs ds) (e : ds[i]? = some d) : ∃ v, vs[i]? = some v ∧ R K G v d := by
  obtain ⟨hi, _⟩ := List.getElem?_eq_some_iff.mp e
  have hv : vs[i]? = some (vs[i]'(by rw [h.len]; exact hi)) := List.getElem?_eq_getElem _
  obtain ⟨d', e', r⟩ := h.get hv
  rw [e] at e'
  cases e'
  exact ⟨_, hv, r⟩
theorem RL.app : ∀ {vs ws : List V} {ds es : List Dat}, RL K G vs ds → RL K G ws es → RL K G (vs ++ ws) (ds ++ es)
  | [], _, _, _, h, g => by cases h; exact g
  | _ :: vs, _, _, _, h, g => by
    cases h with
    | cons q r => exact .cons q (RL.app r g)
theorem RL.one {v : V} {d : Dat} (h : R K G v d) : RL K G [v] [d] := .cons h .nil
theorem RL.take : ∀ {vs : List V} {ds : List Dat} (n : Nat), RL K G vs ds → RL K G (vs.take n) (ds.take n)
  | [], _, n, h => by cases h; simp; exact .nil
  | _ :: vs, _, 0, h => by simp; exact .nil
  | _ :: vs, _, n + 1, h => by
    cases h with
    | cons q r => exact .cons q (RL.take n r)
theorem RL.drop : ∀ {vs : List V} {ds : List Dat} (n : Nat), RL K G vs ds → RL K G (vs.drop n) (ds.drop n)
  | [], _, n, h => by cases h; simp; exact .nil
  | _ :: vs, _, 0, h => h
  | _ :: vs, _, n + 1, h => by
    cases h with
    | cons q r => exact RL.drop n r
theorem RL.rev : ∀ {vs : List V} {ds : List Dat}, RL K G vs ds → RL K G vs.reverse ds.reverse
  | [], _, h => by cases h; exact .nil
  | _ :: vs, _, h => by
    cases h with
    | cons q r =>
      rw [List.reverse_cons, List.reverse_cons]
      exact RL.app (RL.rev r) (.one q)
theorem RL.set {v : V} {d : Dat} (q : R K G v d) : ∀ {vs : List V} {ds : List Dat} (i : Nat), RL K G vs ds → RL K G (vs.set i v) (ds.set i d)
  | [], _, _, h => by cases h; exact .nil
  | _ :: vs, _, 0, h => by
    cases h with
    | cons _ r => exact .cons q r
  | _ :: vs, _, i + 1, h => by
    cases h with
    | cons p r => exact .cons p (RL.set q i r)
theorem RL.none_of {vs : List V} {ds : List Dat} {i : Nat} (h : RL K G vs ds) (e : ds[i]? = none) : vs[i]? = none := by
  have := h.len
  rw [List.getElem?_eq_none_iff] at e ⊢
  omega
/-- ints, texts, truths -/
theorem RL.ints : ∀ {vs : List V} {ns : List Int}, RL K G vs (ns.map Dat.int) → vs = ns.map V.int
  | [], [], h => rfl
  | [], _ :: _, h => by cases h
  | _ :: _, [], h => by cases h
  | _ :: vs, n :: ns, h => by
    cases h with
    | cons q r => cases q; rw [RL.ints r]; rfl
theorem RL.ofInts : ∀ {ns : List Int}, RL K G (ns.map V.int) (ns.map Dat.int)
  | [] => .nil
  | n :: ns => .cons (.int n) RL.ofInts
theorem RL.strs : ∀ {vs : List V} {ns : List Str}, RL K G vs (ns.map Dat.str) → vs = ns.map V.str
  | [], [], h => rfl
  | [], _ :: _, h => by cases h
  | _ :: _, [], h => by cases h
  | _ :: vs, n :: ns, h => by
    cases h with
    | cons q r => cases q; rw [RL.strs r]; rfl
theorem RL.ofStrs : ∀ {ns : List Str}, RL K G (ns.map V.str) (ns.map Dat.str)
  | [] => .nil
  | n :: ns => .cons (.str n) RL.ofStrs
theorem RL.bls : ∀ {vs : List V} {ns : List Bool}, RL K G vs (ns.map Dat.bl) → vs = ns.map V.bl
  | [], [], h => rfl
  | [], _ :: _, h => by cases h
  | _ :: _, [], h => by cases h
  | _ :: vs, n :: ns, h => by
    cases h with
    | cons q r => cases q; rw [RL.bls r]; rfl
end

/-! ### the standing part G within the heap H, as they grow -/
structure Up (G H G' H' : Hp) : Prop where
  g : Same G G'
  h : Same H H'
  le : Same G' H'
  new : ∀ b, G b = none → H b ≠ none → G' b = none
theorem Up.refl {G H : Hp} (e : Same G H) : Up G H G H := ⟨.refl _, .refl _, e, fun _ h _ => h⟩
theorem Up.trans {G H G1 H1 G2 H2 : Hp} (a : Up G H G1 H1) (b : Up G1 H1 G2 H2) : Up G H G2 H2 :=
  ⟨a.g.trans b.g, a.h.trans b.h, b.le, fun c n m => b.new c (a.new c n m) fun z => m (a.h.free z)⟩
theorem same_upd {H : Hp} {p : Addr} {o : HO} (h : H p = none) : Same H (upd H p o) := fun b x e => by
  rw [upd_ne (ne_of_none e h)]
  exact e
/-- a new object that stands from now on -/
theorem Up.lay {G H : Hp} {p : Addr} {o : HO} (e : Same G H) (h : H p = none) : Up G H (upd G p o) (upd H p o) := by
  have hg : G p = none := e.free h
  refine ⟨same_upd hg, same_upd h, fun b x q => ?_, fun b n m => ?_⟩
  · by_cases hb : b = p
    · subst hb
      rw [upd_same] at q ⊢
      exact q
    · rw [upd_ne hb] at q ⊢
      exact e _ _ q
  · have hb : b ≠ p := fun z => m (by rw [z]; exact h)
    rw [upd_ne hb]
    exact n
/-- a new object that is still to change -/
theorem Up.own {G H : Hp} {p : Addr} {o : HO} (e : Same G H) (h : H p = none) : Up G H G (upd H p o) :=
  ⟨.refl _, same_upd h, e.trans (same_upd h), fun _ n _ => n⟩
/-- one that was new at G0, H0 stands from now on -/
theorem Up.freeze {G0 H0 G H : Hp} {p : Addr} {o : HO} (u : Up G0 H0 G H) (hp : H p = some o) (hg : G p = none) (h0 : H0 p = none) : Up G0 H0 (upd G p o) H := by
  refine ⟨fun b x q => ?_, u.h, fun b x q => ?_, fun b n m => ?_⟩
  · have hb : b ≠ p := ne_of_none (u.g _ _ q) hg
    rw [upd_ne hb]
    exact u.g _ _ q
  · by_cases hb : b = p
    · subst hb
      rw [upd_same] at q
      cases q
      exact hp
    · rw [upd_ne hb] at q
      exact u.le _ _ q
  · have hb : b ≠ p := fun z => m (by rw [z]; exact h0)
    rw [upd_ne hb]
    exact u.new b n m
/-- an object outside the standing part, new at G0, H0, changes -/
theorem Up.write {G0 H0 G H : Hp} {p : Addr} {o : HO} (u : Up G0 H0 G H) (hg : G p = none) (h0 : H0 p = none) : Up G0 H0 G (upd H p o) := by
  refine ⟨u.g, fun b x q => ?_, fun b x q => ?_, u.new⟩
  · have hb : b ≠ p := ne_of_none q h0
    rw [upd_ne hb]
    exact u.h _ _ q
  · have hb : b ≠ p := ne_of_none q hg
    rw [upd_ne hb]
    exact u.le _ _ q

/-! ### slots -/
inductive Sl where
  | no
  | dat (d : Dat)
  /-- a list that is ours alone -/
  | own (ds : List Dat)
  /-- a dict that is ours alone -/
  | ownD (ks : List Key) (ds : List Dat)

/-- what stands at slot i -/
def SlOk (K : PySem.W.Frag) (H0 G H : Hp) (v : Option V) : Sl → Prop
  | .no => True
  | .dat d => ∃ u, v = some u ∧ R K G u d
  | .own ds => ∃ p xs, v = some (.ref p) ∧ H p = some (.lst xs) ∧ G p = none ∧ H0 p = none ∧ RL K G xs ds
  | .ownD ks ds => ∃ p kvs, v = some (.ref p) ∧ H p = some (.dK kvs) ∧ G p = none ∧ H0 p = none ∧ ks = kvs.map (·.1) ∧ RL K G (kvs.map (·.2)) ds
def Sl.mine : Sl → Bool
  | .own _ => true
  | .ownD _ _ => true
  | _ => false
structure Ok (K : PySem.W.Frag) (G0 H0 : Hp) (ε : List Sl) (σ : L2.St) (G H : Hp) : Prop where
  up : Up G0 H0 G H
  get : ∀ (i : Nat) (e : Sl), ε[i]? = some e → ∃ v, σ[i]? = some v ∧ SlOk K H0 G H v e
  ne : ∀ (i j : Nat) (e f : Sl) (p : Addr), i ≠ j → ε[i]? = some e → ε[j]? = some f → e.mine = true → f.mine = true → σ[i]? = some (some (.ref p)) → σ[j]? ≠ some (some (.ref p))
  len : σ.length = ε.length

theorem SlOk.up {K : PySem.W.Frag} {H0 G H G' H' : Hp} {v : Option V} {e : Sl} (h : SlOk K H0 G H v e) (u : Up G H G' H') : SlOk K H0 G' H' v e := by
  cases e with
  | no => trivial
  | dat d =>
    obtain ⟨x, e1, r⟩ := h
    exact ⟨x, e1, r.up u.g⟩
  | own ds =>
    obtain ⟨p, xs, e1, hp, hg, h0, r⟩ := h
    exact ⟨p, xs, e1, u.h _ _ hp, u.new p hg (by rw [hp]; simp), h0, r.up u.g⟩
  | ownD ks ds =>
    obtain ⟨p, xs, e1, hp, hg, h0, e2, r⟩ := h
    exact ⟨p, xs, e1, u.h _ _ hp, u.new p hg (by rw [hp]; simp), h0, e2, r.up u.g⟩
theorem SlOk.at {K : PySem.W.Frag} {H0 G H : Hp} {v : Option V} {e : Sl} (h : SlOk K H0 G H v e) (m : e.mine = true) : ∃ p o, v = some (.ref p) ∧ H p = some o ∧ G p = none ∧ H0 p = none := by
  cases e with
  | no => cases m
  | dat d => cases m
  | own ds =>
    obtain ⟨p, xs, e1, hp, hg, h0, r⟩ := h
    exact ⟨p, _, e1, hp, hg, h0⟩
  | ownD ks ds =>
    obtain ⟨p, xs, e1, hp, hg, h0, e2, r⟩ := h
    exact ⟨p, _, e1, hp, hg, h0⟩
section
variable {K : PySem.W.Frag} {G0 H0 G H G' H' : Hp} {ε : List Sl} {σ : L2.St}
theorem Ok.step (o : Ok K G0 H0 ε σ G H) (u : Up G H G' H') : Ok K G0 H0 ε σ G' H' :=
  ⟨o.up.trans u, fun i e h => let ⟨v, a, b⟩ := o.get i e h; ⟨v, a, b.up u⟩, o.ne, o.len⟩
/-- a new object of ours: it is none of the slots' -/
theorem Ok.fresh (o : Ok K G0 H0 ε σ G H) {p : Addr} (hp : H p = none) {i : Nat} {e : Sl} (h : ε[i]? = some e) (m : e.mine = true) : σ[i]? ≠ some (some (.ref p)) := fun z => by
  obtain ⟨v, a, b⟩ := o.get i e h
  obtain ⟨q, ob, e1, e2, _⟩ := b.at m
  rw [z] at a
  cases a
  cases e1
  rw [hp] at e2
  cases e2
/-- a slot is stored: no object of ours -/
theorem Ok.store (o : Ok K G0 H0 ε σ G H) {i : Nat} {v : V} {e : Sl} (h : SlOk K H0 G H (some v) e) (m : e.mine = false ∨ ∃ p, v = .ref p ∧ ∀ (j : Nat) (f : Sl), j ≠ i → ε[j]? = some f → f.mine = true → σ[j]? ≠ some (some (.ref p))) :
    Ok K G0 H0 (ε.set i e) (σ.set i (some v)) G H := by
  have hl := o.len
  refine ⟨o.up, fun j f hj => ?_, fun j k f g p hjk hj hk mj mk sj sk => ?_, by simp [hl]⟩
  · by_cases hi : i = j
    · subst hi
      have hlt : i < ε.length := by
        have := (List.getElem?_eq_some_iff.mp hj).1
        simpa using this
      rw [List.getElem?_set_self hlt] at hj
      cases hj
      exact ⟨_, List.getElem?_set_self (by omega), h⟩
    · rw [List.getElem?_set_ne hi] at hj
      obtain ⟨u, a, b⟩ := o.get j f hj
      exact ⟨u, by rw [List.getElem?_set_ne hi]; exact a, b⟩
  · by_cases hi : i = j
    · subst hi
      have hlt : i < ε.length := by
        have := (List.getElem?_eq_some_iff.mp hj).1
        simpa using this
      rw [List.getElem?_set_self hlt] at hj
      cases hj
      rw [List.getElem?_set_ne hjk] at hk sk
      rw [List.getElem?_set_self (by omega)] at sj
      rcases m with m | ⟨p', e1, m⟩
      · rw [m] at mj; cases mj
      · rw [e1] at sj
        cases sj
        exact m k g (Ne.symm hjk) hk mk sk
    · rw [List.getElem?_set_ne hi] at hj sj
      by_cases hi2 : i = k
      · subst hi2
        have hlt : i < ε.length := by
          have := (List.getElem?_eq_some_iff.mp hk).1
          simpa using this
        rw [List.getElem?_set_self hlt] at hk
        cases hk
        rw [List.getElem?_set_self (by omega)] at sk
        rcases m with m | ⟨p', e1, m⟩
        · rw [m] at mk; cases mk
        · rw [e1] at sk
          cases sk
          exact m j f (Ne.symm hi) hj mj sj
      · rw [List.getElem?_set_ne hi2] at hk sk
        exact o.ne j k f g p hjk hj hk mj mk sj sk
/-- a slot is forgotten -/
theorem Ok.drop (o : Ok K G0 H0 ε σ G H) {i : Nat} (v : Option V) (hv : v = none ∨ σ[i]? = some v) : Ok K G0 H0 (ε.set i .no) (σ.set i v) G H := by
  have hl := o.len
  refine ⟨o.up, fun j f hj => ?_, fun j k f g p hjk hj hk mj mk sj sk => ?_, by simp [hl]⟩
  · by_cases hi : i = j
    · subst hi
      have hlt : i < ε.length := by
        have := (List.getElem?_eq_some_iff.mp hj).1
        simpa using this
      rw [List.getElem?_set_self hlt] at hj
      cases hj
      exact ⟨_, List.getElem?_set_self (by omega), trivial⟩
    · rw [List.getElem?_set_ne hi] at hj
      obtain ⟨u, a, b⟩ := o.get j f hj
      exact ⟨u, by rw [List.getElem?_set_ne hi]; exact a, b⟩
  · have ne : ∀ {j f}, (ε.set i .no)[j]? = some f → f.mine = true → i ≠ j := fun {j f} hj mj z => by
      subst z
      have hlt : i < ε.length := by
        have := (List.getElem?_eq_some_iff.mp hj).1
        simpa using this
      rw [List.getElem?_set_self hlt] at hj
      cases hj
      cases mj
    have n1 := ne hj mj
    have n2 := ne hk mk
    rw [List.getElem?_set_ne n1] at hj sj
    rw [List.getElem?_set_ne n2] at hk sk
    exact o.ne j k f g p hjk hj hk mj mk sj sk
/-- a list of ours stands from now on -/
theorem Ok.stand (o : Ok K G0 H0 ε σ G H) {i : Nat} {ds : List Dat} (h : ε[i]? = some (.own ds)) : ∃ p xs, H p = some (.lst xs) ∧ G p = none ∧ H0 p = none ∧ σ[i]? = some (some (.ref p)) ∧ Ok K G0 H0 (ε.set i (.dat (.lst ds))) σ (upd G p (.lst xs)) H := by
  obtain ⟨v, a, p, xs, e1, hp, hg, h0, r⟩ := o.get i _ h
  subst e1
  have hl := o.len
  have sg : Same G (upd G p (.lst xs)) := same_upd hg
  refine ⟨p, xs, hp, hg, h0, a, o.up.freeze hp hg h0, fun j f hj => ?_, fun j k f g q hjk hj hk mj mk sj sk => ?_, by simp [hl]⟩
  · by_cases hi : i = j
    · subst hi
      have hlt : i < ε.length := (List.getElem?_eq_some_iff.mp h).1
      rw [List.getElem?_set_self hlt] at hj
      cases hj
      exact ⟨_, a, _, rfl, .lst (.inl (.inl upd_same)) (r.up sg)⟩
    · rw [List.getElem?_set_ne hi] at hj
      obtain ⟨u, a2, b⟩ := o.get j f hj
      refine ⟨u, a2, ?_⟩
      cases f with
      | no => trivial
      | dat d =>
        obtain ⟨x, e1, r1⟩ := b
        exact ⟨x, e1, r1.up sg⟩
      | own es =>
        obtain ⟨p2, ys, e2, hp2, hg2, h02, r2⟩ := b
        subst e2
        have np : p2 ≠ p := fun z => by
          subst z
          exact o.ne i j _ _ p2 hi h hj rfl rfl a a2
        exact ⟨p2, ys, rfl, hp2, by rw [upd_ne np]; exact hg2, h02, r2.up sg⟩
      | ownD ks es =>
        obtain ⟨p2, ys, e2, hp2, hg2, h02, e3, r2⟩ := b
        subst e2
        have np : p2 ≠ p := fun z => by
          subst z
          exact o.ne i j _ _ p2 hi h hj rfl rfl a a2
        exact ⟨p2, ys, rfl, hp2, by rw [upd_ne np]; exact hg2, h02, e3, r2.up sg⟩
  · have ne : ∀ {j f}, (ε.set i (.dat (.lst ds)))[j]? = some f → f.mine = true → i ≠ j := fun {j f} hj mj z => by
      subst z
      have hlt : i < ε.length := (List.getElem?_eq_some_iff.mp h).1
      rw [List.getElem?_set_self hlt] at hj
      cases hj
      cases mj
    have n1 := ne hj mj
    have n2 := ne hk mk
    rw [List.getElem?_set_ne n1] at hj
    rw [List.getElem?_set_ne n2] at hk
    exact o.ne j k f g q hjk hj hk mj mk sj sk
/-- an object of ours changes -/
theorem Ok.write (o : Ok K G0 H0 ε σ G H) {i : Nat} {e f : Sl} {p : Addr} {ob : HO} (h : ε[i]? = some e) (m : e.mine = true) (a : σ[i]? = some (some (.ref p))) (hf : SlOk K H0 G (upd H p ob) (some (.ref p)) f) (mf : f.mine = true) :
    Ok K G0 H0 (ε.set i f) σ G (upd H p ob) := by
  obtain ⟨v, a', b⟩ := o.get i _ h
  obtain ⟨q, ob', e1, hp, hg, h0⟩ := b.at m
  rw [a] at a'
  cases a'
  cases e1
  have hl := o.len
  have hlt : i < ε.length := (List.getElem?_eq_some_iff.mp h).1
  refine ⟨o.up.write hg h0, fun j g hj => ?_, fun j k g g' q hjk hj hk mj mk sj sk => ?_, by simp [hl]⟩
  · by_cases hi : i = j
    · subst hi
      rw [List.getElem?_set_self hlt] at hj
      cases hj
      exact ⟨_, a, hf⟩
    · rw [List.getElem?_set_ne hi] at hj
      obtain ⟨u, a2, b2⟩ := o.get j g hj
      refine ⟨u, a2, ?_⟩
      cases g with
      | no => trivial
      | dat d => exact b2
      | own es =>
        obtain ⟨p2, ys, e2, hp2, hg2, h02, r2⟩ := b2
        subst e2
        have np : p2 ≠ p := fun z => by
          subst z
          exact o.ne i j _ _ p2 hi h hj m rfl a a2
        exact ⟨p2, ys, rfl, by rw [upd_ne np]; exact hp2, hg2, h02, r2⟩
      | ownD ks es =>
        obtain ⟨p2, ys, e2, hp2, hg2, h02, e3, r2⟩ := b2
        subst e2
        have np : p2 ≠ p := fun z => by
          subst z
          exact o.ne i j _ _ p2 hi h hj m rfl a a2
        exact ⟨p2, ys, rfl, by rw [upd_ne np]; exact hp2, hg2, h02, e3, r2⟩
  · have get' : ∀ {j : Nat} {g : Sl}, (ε.set i f)[j]? = some g → g.mine = true → ∃ g', ε[j]? = some g' ∧ g'.mine = true := fun {j g} hj mj => by
      by_cases hi : i = j
      · subst hi
        exact ⟨e, h, m⟩
      · rw [List.getElem?_set_ne hi] at hj
        exact ⟨g, hj, mj⟩
    obtain ⟨g1, k1, m1⟩ := get' hj mj
    obtain ⟨g2, k2, m2⟩ := get' hk mk
    exact o.ne j k g1 g2 q hjk k1 k2 m1 m2 sj sk
end
end Pu
set_option Elab.async false
set_option linter.all false
set_option maxRecDepth 100000
set_option maxHeartbeats 4000000
set_option autoImplicit false
namespace Pu
open PySem PySem.Spec PyProof.Rows L2

/-! ### what an expression evaluates to -/
/-- to a datum as H tells it now | to a datum that stands | to a new list, ours | all of a row of arguments -/
def EvH (K : PySem.W.Frag) (te : TE) (ε : List Sl) (d : Dat) : Prop := ∀ (G0 H0 : Hp) (σ : L2.St) (G H : Hp), Ok K G0 H0 ε σ G H → ∀ Q : VK, (∀ v G' H', Ok K G0 H0 ε σ G' H' → Up G H G' H' → R K H' v d → Q v H') → te σ H Q
def EvD (K : PySem.W.Frag) (te : TE) (ε : List Sl) (d : Dat) : Prop := ∀ (G0 H0 : Hp) (σ : L2.St) (G H : Hp), Ok K G0 H0 ε σ G H → ∀ Q : VK, (∀ v G' H', Ok K G0 H0 ε σ G' H' → Up G H G' H' → R K G' v d → Q v H') → te σ H Q
def EvN (K : PySem.W.Frag) (te : TE) (ε : List Sl) (ds : List Dat) : Prop := ∀ (G0 H0 : Hp) (σ : L2.St) (G H : Hp), Ok K G0 H0 ε σ G H → ∀ Q : VK, (∀ p xs G' H', Ok K G0 H0 ε σ G' H' → Up G H G' H' → H p = none → H' p = some (.lst xs) → G' p = none → RL K G' xs ds → Q (.ref p) H') → te σ H Q
def EvND (K : PySem.W.Frag) (te : TE) (ε : List Sl) (ks : List Key) (ds : List Dat) : Prop := ∀ (G0 H0 : Hp) (σ : L2.St) (G H : Hp), Ok K G0 H0 ε σ G H → ∀ Q : VK, (∀ p kvs G' H', Ok K G0 H0 ε σ G' H' → Up G H G' H' → H p = none → H' p = some (.dK kvs) → G' p = none → ks = kvs.map (·.1) → RL K G' (kvs.map (·.2)) ds → Q (.ref p) H') → te σ H Q
def EvAH (K : PySem.W.Frag) (ta : TA) (ε : List Sl) (ds : List Dat) : Prop := ∀ (G0 H0 : Hp) (σ : L2.St) (G H : Hp), Ok K G0 H0 ε σ G H → ∀ Q : List V → Hp → Prop, (∀ vs G' H', Ok K G0 H0 ε σ G' H' → Up G H G' H' → RL K H' vs ds → Q vs H') → ta σ H Q
def EvA (K : PySem.W.Frag) (ta : TA) (ε : List Sl) (ds : List Dat) : Prop := ∀ (G0 H0 : Hp) (σ : L2.St) (G H : Hp), Ok K G0 H0 ε σ G H → ∀ Q : List V → Hp → Prop, (∀ vs G' H', Ok K G0 H0 ε σ G' H' → Up G H G' H' → RL K G' vs ds → Q vs H') → ta σ H Q
def EvT (K : PySem.W.Frag) (tt : TT) (ε : List Sl) (b : Bool) : Prop := ∀ (G0 H0 : Hp) (σ : L2.St) (G H : Hp), Ok K G0 H0 ε σ G H → ∀ Q : Bool → Hp → Prop, (∀ G' H', Ok K G0 H0 ε σ G' H' → Up G H G' H' → Q b H') → tt σ H Q
def EvO (K : PySem.W.Frag) (to : TO) (ε : List Sl) (o : Option Int) : Prop := ∀ (G0 H0 : Hp) (σ : L2.St) (G H : Hp), Ok K G0 H0 ε σ G H → ∀ Q : Option Int → Hp → Prop, (∀ G' H', Ok K G0 H0 ε σ G' H' → Up G H G' H' → Q o H') → to σ H Q

/-! ### by values -/
def RD (K : PySem.W.Frag) (r : R2) (x y z : Dat) : Prop := ∀ (vx vy : V) (G H : Hp), Same G H → R K G vx x → R K G vy y → ∀ Q : VK, (∀ v G' H', Up G H G' H' → R K G' v z → Q v H') → r vx vy H Q
def RDN (K : PySem.W.Frag) (r : R2) (x y : Dat) (zs : List Dat) : Prop := ∀ (vx vy : V) (G H : Hp), Same G H → R K G vx x → R K G vy y → ∀ Q : VK, (∀ p xs H', Same H H' → H p = none → H' p = some (.lst xs) → RL K G xs zs → Q (.ref p) H') → r vx vy H Q
def RC (K : PySem.W.Frag) (r : List V → Hp → VK → Prop) (ds : List Dat) (z : Dat) : Prop := ∀ (vs : List V) (G H : Hp), Same G H → RL K G vs ds → ∀ Q : VK, (∀ v G' H', Up G H G' H' → R K G' v z → Q v H') → r vs H Q
def RCN (K : PySem.W.Frag) (r : List V → Hp → VK → Prop) (ds zs : List Dat) : Prop := ∀ (vs : List V) (G H : Hp), Same G H → RL K G vs ds → ∀ Q : VK, (∀ p xs H', Same H H' → H p = none → H' p = some (.lst xs) → RL K G xs zs → Q (.ref p) H') → r vs H Q

theorem Up.wide {G H H' : Hp} (e : Same G H) (h : Same H H') : Up G H G H' := ⟨.refl _, h, e.trans h, fun _ n _ => n⟩
def Dat.flat : Dat → Bool
  | .non | .bl _ | .int _ | .str _ => true
  | _ => false
theorem R.flat {K : PySem.W.Frag} {G G' : Hp} {v : V} {d : Dat} (h : R K G v d) (f : d.flat = true) : R K G' v d := by
  cases h with
  | non => exact .non
  | bl b => exact .bl b
  | int i => exact .int i
  | str x => exact .str x
  | _ => cases f
/-- the value of a flat datum -/
def Dat.v : Dat → V
  | .bl b => .bl b
  | .int i => .int i
  | .str x => .str x
  | _ => .non
theorem R.v {K : PySem.W.Frag} {G : Hp} {v : V} {d : Dat} (h : R K G v d) (f : d.flat = true) : v = d.v := by
  cases h with
  | non => rfl
  | bl b => rfl
  | int i => rfl
  | str x => rfl
  | _ => cases f

section
variable {K : PySem.W.Frag} {ε : List Sl} {te ta tb tx : TE} {tu tw : TA} {t u : TT} {x y z d : Dat} {ds es : List Dat}
theorem EvD.toH (h : EvD K te ε d) : EvH K te ε d := fun G0 H0 σ G H o Q q => h G0 H0 σ G H o Q fun v G' H' o' u r => q v G' H' o' u (r.up o'.up.le)
theorem EvH.toD (h : EvH K te ε d) (f : d.flat = true := by rfl) : EvD K te ε d := fun G0 H0 σ G H o Q q => h G0 H0 σ G H o Q fun v G' H' o' u r => q v G' H' o' u (r.flat f)
theorem EvA.toH (h : EvA K tu ε ds) : EvAH K tu ε ds := fun G0 H0 σ G H o Q q => h G0 H0 σ G H o Q fun v G' H' o' u r => q v G' H' o' u (r.up o'.up.le)
theorem EvN.toD (h : EvN K te ε ds) : EvD K te ε (.lst ds) := fun G0 H0 σ G H o Q q => h G0 H0 σ G H o Q fun p xs G' H' o' u hp hp' hg r => by
  have h0 : H0 p = none := o.up.h.free hp
  have sg : Same G' (upd G' p (.lst xs)) := same_upd hg
  have u2 : Up G H (upd G' p (.lst xs)) H' := u.freeze hp' hg hp
  refine q _ (upd G' p (.lst xs)) H' ⟨o.up.trans u2, fun i e hi => ?_, o.ne, o.len⟩ u2 (.lst (.inl (.inl upd_same)) (r.up sg))
  obtain ⟨v, a, b⟩ := o.get i e hi
  exact ⟨v, a, b.up u2⟩
theorem EvN.toH (h : EvN K te ε ds) : EvH K te ε (.lst ds) := h.toD.toH

theorem evd_var {i : Nat} (h : ε[i]? = some (.dat d)) : EvD K (tVar i) ε d := fun G0 H0 σ G H o Q q => by
  obtain ⟨v, a, w, e, r⟩ := o.get i _ h
  subst e
  exact ⟨w, a, q w G H o (.refl o.up.le) r⟩
theorem evh_own {i : Nat} (h : ε[i]? = some (.own ds)) : EvH K (tVar i) ε (.lst ds) := fun G0 H0 σ G H o Q q => by
  obtain ⟨v, a, p, xs, e, hp, hg, h0, r⟩ := o.get i _ h
  subst e
  exact ⟨_, a, q _ G H o (.refl o.up.le) (.lst (.inl (.inl hp)) (r.up o.up.le))⟩
theorem evh_ownD {i : Nat} {ks : List Key} (h : ε[i]? = some (.ownD ks ds)) : EvH K (tVar i) ε (.dic ks ds) := fun G0 H0 σ G H o Q q => by
  obtain ⟨v, a, p, xs, e, hp, hg, h0, e2, r⟩ := o.get i _ h
  subst e e2
  exact ⟨_, a, q _ G H o (.refl o.up.le) (.dic hp (r.up o.up.le))⟩
theorem evd_c {v : V} (h : ∀ G, R K G v d) : EvD K (tC v) ε d := fun G0 H0 σ G H o Q q => q v G H o (.refl o.up.le) (h G)
theorem evd_int {i : Int} : EvD K (tC (.int i)) ε (.int i) := evd_c fun _ => .int i
theorem evd_str {i : Str} : EvD K (tC (.str i)) ε (.str i) := evd_c fun _ => .str i
theorem evd_bl {i : Bool} : EvD K (tC (.bl i)) ε (.bl i) := evd_c fun _ => .bl i
theorem evd_non : EvD K (tC .non) ε .non := evd_c fun _ => .non

theorem evd_op {r : R2} (ha : EvD K ta ε x) (hb : EvD K tb ε y) (hr : RD K r x y z) : EvD K (tOp r ta tb) ε z := fun G0 H0 σ G H o Q q =>
  ha G0 H0 σ G H o _ fun v G1 H1 o1 u1 r1 => hb G0 H0 σ G1 H1 o1 _ fun w G2 H2 o2 u2 r2 => hr v w G2 H2 o2.up.le (r1.up u2.g) r2 Q fun v3 G3 H3 u3 r3 => q v3 G3 H3 (o2.step u3) ((u1.trans u2).trans u3) r3
theorem evh_op {r : R2} (ha : EvH K ta ε x) (hb : EvH K tb ε y) (hr : RD K r x y z) : EvH K (tOp r ta tb) ε z := fun G0 H0 σ G H o Q q =>
  ha G0 H0 σ G H o _ fun v G1 H1 o1 u1 r1 => hb G0 H0 σ G1 H1 o1 _ fun w G2 H2 o2 u2 r2 => hr v w H2 H2 (.refl _) (r1.up u2.h) r2 Q fun v3 G3 H3 u3 r3 =>
    have u4 : Up G2 H2 G2 H3 := .wide o2.up.le u3.h
    q v3 G2 H3 (o2.step u4) ((u1.trans u2).trans u4) (r3.up u3.le)
theorem evn_op {r : R2} {zs : List Dat} (ha : EvD K ta ε x) (hb : EvD K tb ε y) (hr : RDN K r x y zs) : EvN K (tOp r ta tb) ε zs := fun G0 H0 σ G H o Q q =>
  ha G0 H0 σ G H o _ fun v G1 H1 o1 u1 r1 => hb G0 H0 σ G1 H1 o1 _ fun w G2 H2 o2 u2 r2 => hr v w G2 H2 o2.up.le (r1.up u2.g) r2 Q fun p xs H3 s3 hp hp3 r3 =>
    have u4 : Up G2 H2 G2 H3 := .wide o2.up.le s3
    q p xs G2 H3 (o2.step u4) ((u1.trans u2).trans u4) ((u1.trans u2).h.free hp) hp3 (o2.up.le.free hp) r3
theorem evd_un {r : V → Hp → VK → Prop} (ha : EvD K ta ε x) (hr : RC K (fun vs H Q => ∃ v, vs = [v] ∧ r v H Q) [x] z) : EvD K (tUn r ta) ε z := fun G0 H0 σ G H o Q q =>
  ha G0 H0 σ G H o _ fun v G1 H1 o1 u1 r1 => by
    obtain ⟨v', e, h⟩ := hr [v] G1 H1 o1.up.le (.one r1) Q fun v3 G3 H3 u3 r3 => q v3 G3 H3 (o1.step u3) (u1.trans u3) r3
    cases e
    exact h
theorem eva_nil : EvA K tNil ε [] := fun G0 H0 σ G H o Q q => q [] G H o (.refl o.up.le) .nil
theorem eva_cons (h : EvD K te ε d) (hr : EvA K tu ε ds) : EvA K (tCons te tu) ε (d :: ds) := fun G0 H0 σ G H o Q q =>
  h G0 H0 σ G H o _ fun v G1 H1 o1 u1 r1 => hr G0 H0 σ G1 H1 o1 _ fun vs G2 H2 o2 u2 r2 => q _ G2 H2 o2 (u1.trans u2) (.cons (r1.up u2.g) r2)
theorem evah_nil : EvAH K tNil ε [] := eva_nil.toH
theorem evah_cons (h : EvH K te ε d) (hr : EvAH K tu ε ds) : EvAH K (tCons te tu) ε (d :: ds) := fun G0 H0 σ G H o Q q =>
  h G0 H0 σ G H o _ fun v G1 H1 o1 u1 r1 => hr G0 H0 σ G1 H1 o1 _ fun vs G2 H2 o2 u2 r2 => q _ G2 H2 o2 (u1.trans u2) (.cons (r1.up u2.h) r2)
theorem size_ok {n : Nat} (h : n ≤ 16777216) : n ≤ sizeLine := by rw [sizeLine_eq]; exact h
theorem size_lt {n : Nat} (h : n < 16777216) : n < sizeLine := by rw [sizeLine_eq]; exact h
theorem evd_tup (h : EvA K tu ε ds) (hl : ds.length ≤ 16777216 := by decide) : EvD K (tTup tu) ε (.tup ds) := fun G0 H0 σ G H o Q q =>
  h G0 H0 σ G H o _ fun vs G1 H1 o1 u1 r1 => ⟨size_ok (by rw [r1.len]; exact hl), fun p hp =>
    have u2 : Up G1 H1 (upd G1 p (.tup vs)) (upd H1 p (.tup vs)) := .lay o1.up.le hp
    q _ _ _ (o1.step u2) (u1.trans u2) (.tup (.inl (.inl upd_same)) (r1.up u2.g))⟩
theorem evh_tup (h : EvAH K tu ε ds) (hl : ds.length ≤ 16777216 := by decide) : EvH K (tTup tu) ε (.tup ds) := fun G0 H0 σ G H o Q q =>
  h G0 H0 σ G H o _ fun vs G1 H1 o1 u1 r1 => ⟨size_ok (by rw [r1.len]; exact hl), fun p hp =>
    have s2 : Same H1 (upd H1 p (.tup vs)) := same_upd hp
    have u2 : Up G1 H1 G1 (upd H1 p (.tup vs)) := .wide o1.up.le s2
    q _ _ _ (o1.step u2) (u1.trans u2) (.tup (.inl (.inl upd_same)) (r1.up s2))⟩
theorem evn_lst (h : EvA K tu ε ds) (hl : ds.length ≤ 16777216 := by decide) : EvN K (tLst tu) ε ds := fun G0 H0 σ G H o Q q =>
  h G0 H0 σ G H o _ fun vs G1 H1 o1 u1 r1 => ⟨size_ok (by rw [r1.len]; exact hl), fun p hp =>
    have u2 : Up G1 H1 G1 (upd H1 p (.lst vs)) := .own o1.up.le hp
    q _ _ _ _ (o1.step u2) (u1.trans u2) (u1.h.free hp) upd_same (o1.up.le.free hp) (r1.up u2.g)⟩
theorem evh_lst (h : EvAH K tu ε ds) (hl : ds.length ≤ 16777216 := by decide) : EvH K (tLst tu) ε (.lst ds) := fun G0 H0 σ G H o Q q =>
  h G0 H0 σ G H o _ fun vs G1 H1 o1 u1 r1 => ⟨size_ok (by rw [r1.len]; exact hl), fun p hp =>
    have s2 : Same H1 (upd H1 p (.lst vs)) := same_upd hp
    have u2 : Up G1 H1 G1 (upd H1 p (.lst vs)) := .wide o1.up.le s2
    q _ _ _ (o1.step u2) (u1.trans u2) (.lst (.inl (.inl upd_same)) (r1.up s2))⟩
theorem evd_cb {r : List V → Hp → VK → Prop} (h : EvA K tu ε ds) (hr : RC K r ds z) : EvD K (tCB r tu) ε z := fun G0 H0 σ G H o Q q =>
  h G0 H0 σ G H o _ fun vs G1 H1 o1 u1 r1 => hr vs G1 H1 o1.up.le r1 Q fun v3 G3 H3 u3 r3 => q v3 G3 H3 (o1.step u3) (u1.trans u3) r3
theorem evh_cb {r : List V → Hp → VK → Prop} (h : EvAH K tu ε ds) (hr : RC K r ds z) : EvH K (tCB r tu) ε z := fun G0 H0 σ G H o Q q =>
  h G0 H0 σ G H o _ fun vs G1 H1 o1 u1 r1 => hr vs H1 H1 (.refl _) r1 Q fun v3 G3 H3 u3 r3 =>
    have u4 : Up G1 H1 G1 H3 := .wide o1.up.le u3.h
    q v3 G1 H3 (o1.step u4) (u1.trans u4) (r3.up u3.le)
theorem evn_cb {r : List V → Hp → VK → Prop} {zs : List Dat} (h : EvA K tu ε ds) (hr : RCN K r ds zs) : EvN K (tCB r tu) ε zs := fun G0 H0 σ G H o Q q =>
  h G0 H0 σ G H o _ fun vs G1 H1 o1 u1 r1 => hr vs G1 H1 o1.up.le r1 Q fun p xs H3 s3 hp hp3 r3 =>
    have u4 : Up G1 H1 G1 H3 := .wide o1.up.le s3
    q p xs G1 H3 (o1.step u4) (u1.trans u4) (u1.h.free hp) hp3 (o1.up.le.free hp) r3
/-- a new list of what our own list holds (flat things): by H alone -/
theorem evn_cbH {r : List V → Hp → VK → Prop} {zs : List Dat} (h : EvAH K tu ε ds) (hr : RCN K r ds zs) (f : ∀ z ∈ zs, z.flat = true) : EvN K (tCB r tu) ε zs := fun G0 H0 σ G H o Q q =>
  h G0 H0 σ G H o _ fun vs G1 H1 o1 u1 r1 => hr vs H1 H1 (.refl _) r1 Q fun p xs H3 s3 hp hp3 r3 =>
    have u4 : Up G1 H1 G1 H3 := .wide o1.up.le s3
    have fl : ∀ (zs : List Dat) (xs : List V), (∀ z ∈ zs, z.flat = true) → RL K H1 xs zs → RL K G1 xs zs := fun zs => by
      induction zs with
      | nil => intro xs _ h; cases h; exact .nil
      | cons z zs ih =>
        intro xs f h
        cases h with
        | cons a b => exact .cons (a.flat (f z List.mem_cons_self)) (ih _ (fun w hw => f w (List.mem_cons_of_mem _ hw)) b)
    q p xs G1 H3 (o1.step u4) (u1.trans u4) (u1.h.free hp) hp3 (o1.up.le.free hp) (fl zs xs f r3)

/-! ### calls of defs -/
inductive Res where
  | dat (d : Dat)
  | new (ds : List Dat)
  | newD (ks : List Key) (ds : List Dat)
def ResOk (K : PySem.W.Frag) (G0 H0 : Hp) (r : Res) (v : V) (G H : Hp) : Prop :=
  match r with
  | .dat d => Up G0 H0 G H ∧ R K G v d
  | .new ds => ∃ p xs, v = .ref p ∧ Up G0 H0 G H ∧ H p = some (.lst xs) ∧ G p = none ∧ H0 p = none ∧ RL K G xs ds
  | .newD ks ds => ∃ p kvs, v = .ref p ∧ Up G0 H0 G H ∧ H p = some (.dK kvs) ∧ G p = none ∧ H0 p = none ∧ ks = kvs.map (·.1) ∧ RL K G (kvs.map (·.2)) ds
/-- the promise of a def that is a function of data: P tells its results -/
def spF (K : PySem.W.Frag) (P : List Dat → Res → Prop) : Sp := fun vs H Q _ => ∃ G ds r, Same G H ∧ RL K G vs ds ∧ P ds r ∧ ∀ v G' H', ResOk K G H r v G' H' → Q v H'
theorem evd_call {P : List Dat → Res → Prop} {E : XK} {dvs : List V} {es : List Dat} (h : EvA K tu ε ds) (hd : ∀ G, RL K G dvs es) (hP : P (ds ++ es) (.dat z)) : EvD K (tCall (spF K P) dvs E tu) ε z := fun G0 H0 σ G H o Q q =>
  h G0 H0 σ G H o _ fun vs G1 H1 o1 u1 r1 => ⟨G1, _, _, o1.up.le, r1.app (hd _), hP, fun v G' H' hr => q v G' H' (o1.step hr.1) (u1.trans hr.1) hr.2⟩
theorem evh_call {P : List Dat → Res → Prop} {E : XK} {dvs : List V} {es : List Dat} (h : EvAH K tu ε ds) (hd : ∀ G, RL K G dvs es) (hP : P (ds ++ es) (.dat z)) : EvH K (tCall (spF K P) dvs E tu) ε z := fun G0 H0 σ G H o Q q =>
  h G0 H0 σ G H o _ fun vs G1 H1 o1 u1 r1 => ⟨H1, _, _, .refl _, r1.app (hd _), hP, fun v G' H' hr =>
    have u4 : Up G1 H1 G1 H' := .wide o1.up.le hr.1.h
    q v G1 H' (o1.step u4) (u1.trans u4) (hr.2.up hr.1.le)⟩
theorem evn_call {P : List Dat → Res → Prop} {E : XK} {dvs : List V} {es zs : List Dat} (h : EvA K tu ε ds) (hd : ∀ G, RL K G dvs es) (hP : P (ds ++ es) (.new zs)) : EvN K (tCall (spF K P) dvs E tu) ε zs := fun G0 H0 σ G H o Q q =>
  h G0 H0 σ G H o _ fun vs G1 H1 o1 u1 r1 => ⟨G1, _, _, o1.up.le, r1.app (hd _), hP, fun v G' H' hr => by
    obtain ⟨p, xs, e, u2, hp, hg, h0, r⟩ := hr
    subst e
    exact q p xs G' H' (o1.step u2) (u1.trans u2) (u1.h.free h0) hp hg r⟩
theorem evnd_call {P : List Dat → Res → Prop} {E : XK} {dvs : List V} {es zs : List Dat} {ks : List Key} (h : EvA K tu ε ds) (hd : ∀ G, RL K G dvs es) (hP : P (ds ++ es) (.newD ks zs)) : EvND K (tCall (spF K P) dvs E tu) ε ks zs := fun G0 H0 σ G H o Q q =>
  h G0 H0 σ G H o _ fun vs G1 H1 o1 u1 r1 => ⟨G1, _, _, o1.up.le, r1.app (hd _), hP, fun v G' H' hr => by
    obtain ⟨p, xs, e, u2, hp, hg, h0, e2, r⟩ := hr
    subst e
    exact q p xs G' H' (o1.step u2) (u1.trans u2) (u1.h.free h0) hp hg e2 r⟩
/-- without defaults -/
theorem evd_call' {P : List Dat → Res → Prop} {E : XK} (h : EvA K tu ε ds) (hP : P ds (.dat z)) : EvD K (tCall (spF K P) [] E tu) ε z := evd_call (es := []) h (fun _ => .nil) (by rw [List.append_nil]; exact hP)
theorem evh_call' {P : List Dat → Res → Prop} {E : XK} (h : EvAH K tu ε ds) (hP : P ds (.dat z)) : EvH K (tCall (spF K P) [] E tu) ε z := evh_call (es := []) h (fun _ => .nil) (by rw [List.append_nil]; exact hP)
theorem evn_call' {P : List Dat → Res → Prop} {E : XK} {zs : List Dat} (h : EvA K tu ε ds) (hP : P ds (.new zs)) : EvN K (tCall (spF K P) [] E tu) ε zs := evn_call (es := []) h (fun _ => .nil) (by rw [List.append_nil]; exact hP)
theorem evnd_call' {P : List Dat → Res → Prop} {E : XK} {zs : List Dat} {ks : List Key} (h : EvA K tu ε ds) (hP : P ds (.newD ks zs)) : EvND K (tCall (spF K P) [] E tu) ε ks zs := evnd_call (es := []) h (fun _ => .nil) (by rw [List.append_nil]; exact hP)

/-! ### tests, truths -/
theorem evt_test {b : Bool} (h : EvH K te ε (.bl b)) : EvT K (tTest te) ε b := fun G0 H0 σ G H o Q q => h G0 H0 σ G H o _ fun v G1 H1 o1 u1 r1 => by
  cases r1
  exact ⟨b, rfl, q G1 H1 o1 u1⟩
theorem evt_B {b : Bool} (h : EvH K te ε (.bl b)) : EvT K (tB te) ε b := fun G0 H0 σ G H o Q q => h G0 H0 σ G H o _ fun v G1 H1 o1 u1 r1 => by
  cases r1
  exact ⟨b, rfl, q G1 H1 o1 u1⟩
theorem evt_and {a b : Bool} (h1 : EvT K t ε a) (h2 : a = true → EvT K u ε b) : EvT K (tAnd t u) ε (a && b) := fun G0 H0 σ G H o Q q => h1 G0 H0 σ G H o _ fun G1 H1 o1 u1 => by
  cases a with
  | true =>
    rw [if_pos rfl]
    exact h2 rfl G0 H0 σ G1 H1 o1 Q fun G2 H2 o2 u2 => q G2 H2 o2 (u1.trans u2)
  | false =>
    rw [if_neg Bool.false_ne_true]
    exact q G1 H1 o1 u1
theorem evt_or {a b : Bool} (h1 : EvT K t ε a) (h2 : a = false → EvT K u ε b) : EvT K (tOr t u) ε (a || b) := fun G0 H0 σ G H o Q q => h1 G0 H0 σ G H o _ fun G1 H1 o1 u1 => by
  cases a with
  | true =>
    rw [if_pos rfl]
    exact q G1 H1 o1 u1
  | false =>
    rw [if_neg Bool.false_ne_true]
    exact h2 rfl G0 H0 σ G1 H1 o1 Q fun G2 H2 o2 u2 => q G2 H2 o2 (u1.trans u2)
theorem evt_not {a : Bool} (h : EvT K t ε a) : EvT K (tNot t) ε (!a) := fun G0 H0 σ G H o Q q => h G0 H0 σ G H o _ q
theorem evt_yes : EvT K tYes ε true := fun G0 H0 σ G H o Q q => q G H o (.refl o.up.le)
theorem evt_is {a b : Bool} (h : EvT K t ε a) (e : a = b) : EvT K t ε b := e ▸ h
theorem evd_is {a b : Dat} (h : EvD K te ε a) (e : a = b) : EvD K te ε b := e ▸ h
theorem evh_is {a b : Dat} (h : EvH K te ε a) (e : a = b) : EvH K te ε b := e ▸ h
theorem evn_is {a b : List Dat} (h : EvN K te ε a) (e : a = b) : EvN K te ε b := e ▸ h
theorem evh_and {a b : Bool} (h1 : EvH K ta ε (.bl a)) (h2 : a = true → EvH K tb ε (.bl b)) : EvH K (tAndV ta tb) ε (.bl (a && b)) := fun G0 H0 σ G H o Q q => h1 G0 H0 σ G H o _ fun v G1 H1 o1 u1 r1 => by
  cases r1
  refine ⟨a, rfl, ?_⟩
  cases a with
  | true =>
    rw [if_pos rfl]
    exact h2 rfl G0 H0 σ G1 H1 o1 Q fun v G2 H2 o2 u2 r2 => q v G2 H2 o2 (u1.trans u2) r2
  | false =>
    rw [if_neg Bool.false_ne_true]
    exact q _ G1 H1 o1 u1 (.bl _)
theorem evh_or {a b : Bool} (h1 : EvH K ta ε (.bl a)) (h2 : a = false → EvH K tb ε (.bl b)) : EvH K (tOrV ta tb) ε (.bl (a || b)) := fun G0 H0 σ G H o Q q => h1 G0 H0 σ G H o _ fun v G1 H1 o1 u1 r1 => by
  cases r1
  refine ⟨a, rfl, ?_⟩
  cases a with
  | true =>
    rw [if_pos rfl]
    exact q _ G1 H1 o1 u1 (.bl _)
  | false =>
    rw [if_neg Bool.false_ne_true]
    exact h2 rfl G0 H0 σ G1 H1 o1 Q fun v G2 H2 o2 u2 r2 => q v G2 H2 o2 (u1.trans u2) r2
theorem evh_not {a : Bool} (h1 : EvH K ta ε (.bl a)) : EvH K (tNotV ta) ε (.bl (!a)) := fun G0 H0 σ G H o Q q => h1 G0 H0 σ G H o _ fun v G1 H1 o1 u1 r1 => by
  cases r1
  exact ⟨a, rfl, q _ G1 H1 o1 u1 (.bl _)⟩
theorem evd_if {b : Bool} (h : EvT K t ε b) (h1 : b = true → EvD K ta ε x) (h2 : b = false → EvD K tb ε y) : EvD K (tIf t ta tb) ε (if b = true then x else y) := fun G0 H0 σ G H o Q q => h G0 H0 σ G H o _ fun G1 H1 o1 u1 => by
  cases b with
  | true =>
    rw [if_pos rfl] at q ⊢
    exact h1 rfl G0 H0 σ G1 H1 o1 Q fun v G2 H2 o2 u2 r2 => q v G2 H2 o2 (u1.trans u2) r2
  | false =>
    rw [if_neg Bool.false_ne_true] at q ⊢
    exact h2 rfl G0 H0 σ G1 H1 o1 Q fun v G2 H2 o2 u2 r2 => q v G2 H2 o2 (u1.trans u2) r2

/-! ### slices -/
theorem evo_none : EvO K tNoPart ε none := fun G0 H0 σ G H o Q q => q G H o (.refl o.up.le)
theorem evo_some {i : Int} (h : EvH K te ε (.int i)) : EvO K (tPart te) ε (some i) := fun G0 H0 σ G H o Q q => h G0 H0 σ G H o _ fun v G1 H1 o1 u1 r1 => by
  cases r1
  exact ⟨i, rfl, q G1 H1 o1 u1⟩
def cutD (xs : List Dat) (lo hi : Option Int) : List Dat := (xs.drop (HT.sIx xs.length 0 lo)).take (HT.sIx xs.length xs.length hi - HT.sIx xs.length 0 lo)
theorem RL.cut {G : Hp} {vs : List V} {ds : List Dat} (h : RL K G vs ds) (lo hi : Option Int) : RL K G (cutV vs lo hi) (cutD ds lo hi) := by
  unfold cutV cutD
  rw [h.len]
  exact (h.drop _).take _
theorem evn_slL {tl th : TO} {lo hi : Option Int} (h : EvD K te ε (.lst ds)) (h1 : EvO K tl ε lo) (h2 : EvO K th ε hi) : EvN K (tSl (rSlL K) te tl th) ε (cutD ds lo hi) := fun G0 H0 σ G H o Q q =>
  h G0 H0 σ G H o _ fun v G1 H1 o1 u1 r1 => h1 G0 H0 σ G1 H1 o1 _ fun G2 H2 o2 u2 => h2 G0 H0 σ G2 H2 o2 _ fun G3 H3 o3 u3 => by
    have r3 := r1.up (u2.trans u3).g
    cases r3 with
    | @lst a xs _ s r =>
      exact ⟨a, xs, rfl, o3.up.le.seq s, fun p hp =>
        have u4 : Up G3 H3 G3 (upd H3 p (.lst (cutV xs lo hi))) := .own o3.up.le hp
        q p _ _ _ (o3.step u4) (((u1.trans u2).trans u3).trans u4) (((u1.trans u2).trans u3).h.free hp) upd_same (o3.up.le.free hp) (r.cut lo hi)⟩
end
end Pu
set_option Elab.async false
set_option linter.all false
set_option maxRecDepth 100000
set_option maxHeartbeats 4000000
set_option autoImplicit false
namespace Pu
open PySem PySem.Spec PyProof.Rows L2

/-! ### statements -/
inductive Out where
  | nx (ε : List Sl)
  | bk (ε : List Sl)
  | ct (ε : List Sl)
  | ret (r : Res)
structure Wants (K : PySem.W.Frag) (G0 H0 B : Hp) (D : Ends) (Φ : Out → Prop) : Prop where
  nx : ∀ ε σ G H, Φ (.nx ε) → Ok K G0 H0 ε σ G H → Same B G → D.nx σ H
  bk : ∀ ε σ G H, Φ (.bk ε) → Ok K G0 H0 ε σ G H → Same B G → D.bk σ H
  ct : ∀ ε σ G H, Φ (.ct ε) → Ok K G0 H0 ε σ G H → Same B G → D.ct σ H
  rt : ∀ r v G H, Φ (.ret r) → ResOk K G0 H0 r v G H → D.rt v H
theorem Wants.up {K : PySem.W.Frag} {G0 H0 B B' : Hp} {D : Ends} {Φ : Out → Prop} (w : Wants K G0 H0 B D Φ) (s : Same B B') : Wants K G0 H0 B' D Φ :=
  ⟨fun ε σ G H p o q => w.nx ε σ G H p o (s.trans q), fun ε σ G H p o q => w.bk ε σ G H p o (s.trans q), fun ε σ G H p o q => w.ct ε σ G H p o (s.trans q), w.rt⟩
def ExS (K : PySem.W.Frag) (ts : TS) (ε : List Sl) (Φ : Out → Prop) : Prop := ∀ (G0 H0 : Hp) (σ : L2.St) (G H : Hp) (D : Ends), Ok K G0 H0 ε σ G H → Wants K G0 H0 G D Φ → ts D σ H

/-- where a block's end goes on with another one -/
def Then (Φ : Out → Prop) (Ψ : List Sl → Prop) : Out → Prop
  | .nx ε => Ψ ε
  | o => Φ o
section
variable {K : PySem.W.Frag} {ε : List Sl} {te ta tb tx : TE} {tu : TA} {tt : TT} {x y z d : Dat} {ds es : List Dat} {s t u : TS} {Φ : Out → Prop}
theorem ex_imp {Φ' : Out → Prop} (h : ExS K t ε Φ') (i : ∀ o, Φ' o → Φ o) : ExS K t ε Φ := fun G0 H0 σ G H D o w => h G0 H0 σ G H D o
  ⟨fun ε σ G H p => w.nx ε σ G H (i _ p), fun ε σ G H p => w.bk ε σ G H (i _ p), fun ε σ G H p => w.ct ε σ G H (i _ p), fun r v G H p => w.rt r v G H (i _ p)⟩
theorem ex_cut (Ψ : List Sl → Prop) (h1 : ExS K t ε (Then Φ Ψ)) (h2 : ∀ ε', Ψ ε' → ExS K u ε' Φ) : ExS K (tSeq t u) ε Φ := fun G0 H0 σ G H D o w => h1 G0 H0 σ G H _ o
  ⟨fun ε' σ' G' H' p o' sm => h2 ε' p G0 H0 σ' G' H' D o' (w.up sm), fun ε σ G H p => w.bk ε σ G H p, fun ε σ G H p => w.ct ε σ G H p, fun r v G H p => w.rt r v G H p⟩
theorem ex_assoc (h : ExS K (tSeq s (tSeq t u)) ε Φ) : ExS K (tSeq (tSeq s t) u) ε Φ := h
theorem ex_next (h : Φ (.nx ε)) : ExS K tNext ε Φ := fun G0 H0 σ G H D o w => w.nx ε σ G H h o (.refl _)
theorem ex_seqN (h : ExS K u ε Φ) : ExS K (tSeq tNext u) ε Φ := h
theorem ex_break (h : Φ (.bk ε)) : ExS K tBreak ε Φ := fun G0 H0 σ G H D o w => w.bk ε σ G H h o (.refl _)
theorem ex_cont (h : Φ (.ct ε)) : ExS K tCont ε Φ := fun G0 H0 σ G H D o w => w.ct ε σ G H h o (.refl _)
/-- a statement alone, as one that ends -/
theorem ex_one (h : ExS K (tSeq t tNext) ε Φ) : ExS K t ε Φ := h
-- name = e
theorem ex_set {i : Nat} (h : EvD K te ε d) (k : ExS K u (ε.set i (.dat d)) Φ) : ExS K (tSeq (tAsg te (gName i)) u) ε Φ := fun G0 H0 σ G H D o w =>
  h G0 H0 σ G H o _ fun v G1 H1 o1 u1 r1 => k G0 H0 _ G1 H1 D (o1.store ⟨v, rfl, r1⟩ (.inl rfl)) (w.up u1.g)
theorem ex_setN {i : Nat} (h : EvN K te ε ds) (k : ExS K u (ε.set i (.own ds)) Φ) : ExS K (tSeq (tAsg te (gName i)) u) ε Φ := fun G0 H0 σ G H D o w =>
  h G0 H0 σ G H o _ fun p xs G1 H1 o1 u1 hp hp1 hg r1 => k G0 H0 _ G1 H1 D
    (o1.store ⟨p, xs, rfl, hp1, hg, o.up.h.free hp, r1⟩ (.inr ⟨p, rfl, fun j f _ hj mj => o.fresh hp hj mj⟩)) (w.up u1.g)
theorem ex_setND {i : Nat} {ks : List Key} (h : EvND K te ε ks ds) (k : ExS K u (ε.set i (.ownD ks ds)) Φ) : ExS K (tSeq (tAsg te (gName i)) u) ε Φ := fun G0 H0 σ G H D o w =>
  h G0 H0 σ G H o _ fun p xs G1 H1 o1 u1 hp hp1 hg e r1 => k G0 H0 _ G1 H1 D
    (o1.store ⟨p, xs, rfl, hp1, hg, o.up.h.free hp, e, r1⟩ (.inr ⟨p, rfl, fun j f _ hj mj => o.fresh hp hj mj⟩)) (w.up u1.g)
/-- our own list stands from now on -/
theorem ex_stand {i : Nat} (h : ε[i]? = some (.own ds)) (k : ExS K t (ε.set i (.dat (.lst ds))) Φ) : ExS K t ε Φ := fun G0 H0 σ G H D o w => by
  obtain ⟨p, xs, _, hg, _, _, o1⟩ := o.stand h
  exact k G0 H0 σ _ H D o1 (w.up (same_upd hg))
theorem ex_drop (i : Nat) (k : ExS K t (ε.set i .no) Φ) : ExS K t ε Φ := fun G0 H0 σ G H D o w => by
  by_cases hi : i < σ.length
  · have q := o.drop (i := i) (σ[i]) (.inr (List.getElem?_eq_getElem hi))
    rw [List.set_getElem_self hi] at q
    exact k G0 H0 σ G H D q w
  · have e : ε.set i .no = ε := List.set_eq_of_length_le (by have := o.len; omega)
    rw [e] at k
    exact k G0 H0 σ G H D o w
theorem ex_expr (h : EvH K te ε d) (k : ExS K u ε Φ) : ExS K (tSeq (tDrop te) u) ε Φ := fun G0 H0 σ G H D o w =>
  h G0 H0 σ G H o _ fun v G1 H1 o1 u1 r1 => k G0 H0 _ G1 H1 D o1 (w.up u1.g)
theorem ex_ret (h : EvD K te ε d) (k : Φ (.ret (.dat d))) : ExS K (tRet te) ε Φ := fun G0 H0 σ G H D o w =>
  h G0 H0 σ G H o _ fun v G1 H1 o1 u1 r1 => w.rt (.dat d) v G1 H1 k ⟨o1.up, r1⟩
theorem ex_retN (h : EvN K te ε ds) (k : Φ (.ret (.new ds))) : ExS K (tRet te) ε Φ := fun G0 H0 σ G H D o w =>
  h G0 H0 σ G H o _ fun p xs G1 H1 o1 u1 hp hp1 hg r1 => w.rt (.new ds) _ G1 H1 k ⟨p, xs, rfl, o1.up, hp1, hg, o.up.h.free hp, r1⟩
theorem ex_retND {ks : List Key} (h : EvND K te ε ks ds) (k : Φ (.ret (.newD ks ds))) : ExS K (tRet te) ε Φ := fun G0 H0 σ G H D o w =>
  h G0 H0 σ G H o _ fun p xs G1 H1 o1 u1 hp hp1 hg e r1 => w.rt (.newD ks ds) _ G1 H1 k ⟨p, xs, rfl, o1.up, hp1, hg, o.up.h.free hp, e, r1⟩
theorem ex_retO {i : Nat} (h : ε[i]? = some (.own ds)) (k : Φ (.ret (.new ds))) : ExS K (tRet (tVar i)) ε Φ := fun G0 H0 σ G H D o w => by
  obtain ⟨v, a, p, xs, e, hp, hg, h0, r⟩ := o.get i _ h
  subst e
  exact ⟨_, a, w.rt (.new ds) _ G H k ⟨p, xs, rfl, o.up, hp, hg, h0, r⟩⟩
theorem ex_retOD {i : Nat} {ks : List Key} (h : ε[i]? = some (.ownD ks ds)) (k : Φ (.ret (.newD ks ds))) : ExS K (tRet (tVar i)) ε Φ := fun G0 H0 σ G H D o w => by
  obtain ⟨v, a, p, xs, e, hp, hg, h0, e2, r⟩ := o.get i _ h
  subst e
  exact ⟨_, a, w.rt (.newD ks ds) _ G H k ⟨p, xs, rfl, o.up, hp, hg, h0, e2, r⟩⟩
theorem ex_retNone (k : Φ (.ret (.dat .non))) : ExS K tRetN ε Φ := fun G0 H0 σ G H D o w => w.rt (.dat .non) .non G H k ⟨o.up, .non⟩
/-- two ways, each to the end -/
theorem ex_if {b : Bool} (h : EvT K tt ε b) (h1 : b = true → ExS K s ε Φ) (h2 : b = false → ExS K t ε Φ) : ExS K (tIfS tt s t) ε Φ := fun G0 H0 σ G H D o w =>
  h G0 H0 σ G H o _ fun G1 H1 o1 u1 => by
    cases b with
    | true =>
      rw [if_pos rfl]
      exact h1 rfl G0 H0 σ G1 H1 D o1 (w.up u1.g)
    | false =>
      rw [if_neg Bool.false_ne_true]
      exact h2 rfl G0 H0 σ G1 H1 D o1 (w.up u1.g)
theorem ex_ifs {b : Bool} (h : EvT K tt ε b) (h1 : b = true → ExS K (tSeq s u) ε Φ) (h2 : b = false → ExS K (tSeq t u) ε Φ) : ExS K (tSeq (tIfS tt s t) u) ε Φ := fun G0 H0 σ G H D o w =>
  h G0 H0 σ G H o _ fun G1 H1 o1 u1 => by
    cases b with
    | true =>
      rw [if_pos rfl]
      exact h1 rfl G0 H0 σ G1 H1 D o1 (w.up u1.g)
    | false =>
      rw [if_neg Bool.false_ne_true]
      exact h2 rfl G0 H0 σ G1 H1 D o1 (w.up u1.g)
/-- behind a statement that always leaves -/
theorem ex_left (h : ExS K t ε (Then Φ fun _ => False)) : ExS K (tSeq t u) ε Φ := ex_cut _ h fun _ z => z.elim
-- xs.append(e), our own list
theorem ex_app {i : Nat} (h : ε[i]? = some (.own ds)) (he : EvD K te ε d) (hl : ds.length < 16777216) (k : ExS K u (ε.set i (.own (ds ++ [d]))) Φ) :
    ExS K (tSeq (tDrop (tBM K "list" rAppend (tVar i) (tCons te tNil))) u) ε Φ := fun G0 H0 σ G H D o w => by
  obtain ⟨v, a, p, xs, e, hp, hg, h0, r⟩ := o.get i _ h
  subst e
  refine ⟨_, a, .inl ⟨rfl, xs, .inl (.inl hp)⟩, he G0 H0 σ G H o _ fun v G1 H1 o1 u1 r1 => ?_⟩
  have hp1 := u1.h _ _ hp
  have hg1 := u1.new p hg (by rw [hp]; simp)
  refine ⟨p, xs, v, rfl, rfl, hp1, size_lt (by rw [r.len]; exact hl), ?_⟩
  exact k G0 H0 σ G1 _ D (o1.write (e := .own ds) h rfl a ⟨p, _, rfl, upd_same, hg1, h0, (r.up u1.g).app (.one r1)⟩ rfl) (w.up u1.g)
theorem ex_appS {i : Nat} (h : ε[i]? = some (.own ds)) (he : EvD K te ε d) (hl : ds.length < 16777216) (k : Φ (.nx (ε.set i (.own (ds ++ [d]))))) :
    ExS K (tDrop (tBM K "list" rAppend (tVar i) (tCons te tNil))) ε Φ := ex_one (ex_app h he hl (ex_next k))
-- name op= e
theorem ex_aug {i : Nat} {f : Int → Int → Int} {a b : Int} (h : ε[i]? = some (.dat (.int a))) (he : EvH K te ε (.int b)) (k : ExS K u (ε.set i (.dat (.int (f a b)))) Φ) : ExS K (tSeq (tAug i te (ipI f)) u) ε Φ := fun G0 H0 σ G H D o w => by
  obtain ⟨v, e1, x, e2, r⟩ := o.get i _ h
  subst e2
  cases r
  exact ⟨_, e1, he G0 H0 σ G H o _ fun v G1 H1 o1 u1 r1 => by
    cases r1
    exact ⟨a, b, rfl, rfl, k G0 H0 _ G1 H1 D (o1.store ⟨_, rfl, .int _⟩ (.inl rfl)) (w.up u1.g)⟩⟩
end

/-! ### defs -/
def startE (n : Nat) (ds : List Dat) : List Sl := ds.map Sl.dat ++ List.replicate (n - ds.length) .no
theorem start_ok {K : PySem.W.Frag} {N : List Str} {vs : List V} {ds : List Dat} {G H : Hp} (e : Same G H) (r : RL K G vs ds) : Ok K G H (startE N.length ds) (L2.start N vs) G H := by
  have hl := r.len
  have nm : ∀ (i : Nat) (e : Sl), (startE N.length ds)[i]? = some e → e.mine = false := fun i e h => by
    unfold startE at h
    rw [List.getElem?_append] at h
    split at h
    · rw [List.getElem?_map] at h
      cases q : ds[i]? with
      | none => rw [q] at h; cases h
      | some d => rw [q] at h; cases h; rfl
    · rw [List.getElem?_replicate] at h
      split at h
      · cases h; rfl
      · cases h
  refine ⟨.refl e, fun i e h => ?_, fun i j e f p _ hi _ mi => ?_, by simp [startE, L2.start, hl]⟩
  · unfold startE at h
    unfold L2.start
    rw [List.getElem?_append] at h ⊢
    simp only [List.length_map] at h ⊢
    split at h
    · rename_i hi
      rw [if_pos (by omega)]
      rw [List.getElem?_map] at h ⊢
      cases q : ds[i]? with
      | none => rw [q] at h; cases h
      | some d =>
        rw [q] at h
        cases h
        obtain ⟨v, e1, r1⟩ := r.getD q
        rw [e1]
        exact ⟨_, rfl, v, rfl, r1⟩
    · rename_i hi
      rw [if_neg (by omega)]
      rw [List.getElem?_replicate] at h ⊢
      split at h
      · rename_i h2
        cases h
        rw [if_pos (by omega)]
        exact ⟨_, rfl, trivial⟩
      · cases h
  · rw [nm i e hi] at mi
    cases mi
def Done (r : Res) : Out → Prop
  | .ret r' => r' = r
  | .nx _ => r = .dat .non
  | _ => False
section
variable {P : Program} {w : World} {K : PySem.W.Frag} {mg : Str → Option Value} {base : Heap}
/-- a def that is a function of data, by its body -/
theorem ok_def {x qual : Str} {st : Stmt} {f : Addr} {fd : FuncData} {N ps : List Str} {k : Nat} {Pm : List Dat → Res → Prop} (F : Fun K x qual st f fd) (S : FnScope N ps (defScope st)) (hl : ∀ ds r, Pm ds r → ds.length = ps.length)
    (hbody : ∀ (cdv : Value) (A : Around) (outer : List Env) (s : Shared) (H : Hp) (E : XK), Room k (A.deeper (envOfC qual (defScope st) s.heap.objs.size f cdv)) →
      ∃ t, PSs (cxOf CX0 P w K mg base N qual (defScope st) f cdv A outer s H E).nox (defBody st) t ∧ ∀ ds r, Pm ds r → ExS K t (startE N.length ds) (Done r)) : FnOk P w K mg base CX0 (k + 1) f fd ps (spF K Pm) := by
  refine F.ok S (fun vs H Q E h => ?_) (fun cdv A outer s H vs Q E hr h => ?_)
  · obtain ⟨G, ds, r, _, hR, hP, _⟩ := h
    rw [hR.len]
    exact hl ds r hP
  · obtain ⟨G, ds, r, hG, hR, hP, q⟩ := h
    obtain ⟨t, hT, hE⟩ := hbody cdv A outer s H E hr
    refine ⟨t, hT, hE ds r hP G H _ G H _ (start_ok hG hR) ⟨fun ε σ G' H' p o _ => ?_, fun ε σ G' H' p => p.elim, fun ε σ G' H' p => p.elim, fun r' v G' H' p o => ?_⟩⟩
    · have p' : r = .dat .non := p
      subst p'
      exact q .non G' H' ⟨o.up, .non⟩
    · have p' : r' = r := p
      subst p'
      exact q v G' H' o
end

/-! ### loops -/
/-- what the loop's turn must come to -/
def Turns (Φ : Out → Prop) (Nx Bk : List Sl → Prop) : Out → Prop
  | .nx ε => Nx ε
  | .ct ε => Nx ε
  | .bk ε => Bk ε
  | .ret r => Φ (.ret r)
section
variable {K : PySem.W.Frag} {ε : List Sl} {te ta tb tx : TE} {tu : TA} {tt : TT} {x y z d : Dat} {ds es : List Dat} {s t u : TS} {Φ : Out → Prop}
/-- an iterator that walks the data ds, as long as B stands -/
def Walks (K : PySem.W.Frag) (J : It) (B : Hp) (ds : List Dat) : Prop := ∀ (i : Nat) (G H : Hp), Same B G → Same G H →
  (∀ d, ds[i]? = some d → J.go i H ∧ ∀ x H', J.yld i H x H' → ∃ G', Up G H G' H' ∧ R K G' x d) ∧ (ds.length ≤ i → J.stop i H)
def EvW (K : PySem.W.Frag) (wi : TI) (ε : List Sl) (ds : List Dat) : Prop := ∀ (G0 H0 : Hp) (σ : L2.St) (G H : Hp), Ok K G0 H0 ε σ G H → ∀ Q : It → Hp → Prop, (∀ J G' H', Ok K G0 H0 ε σ G' H' → Up G H G' H' → Walks K J G' ds → Q J H') → wi σ H Q
/-- a target takes a datum: the slots behind it -/
def EvG (K : PySem.W.Frag) (g : TG) (ε : List Sl) (d : Dat) (ε' : List Sl) : Prop := ∀ (G0 H0 : Hp) (σ : L2.St) (G H : Hp) (v : V), Ok K G0 H0 ε σ G H → R K G v d → ∀ Q : L2.St → Hp → Prop, (∀ σ', Ok K G0 H0 ε' σ' G H → Q σ' H) → g v σ H Q
def EvGs (K : PySem.W.Frag) (g : TGs) (ε : List Sl) (ds : List Dat) (ε' : List Sl) : Prop := ∀ (G0 H0 : Hp) (σ : L2.St) (G H : Hp) (vs : List V), Ok K G0 H0 ε σ G H → RL K G vs ds → ∀ Q : L2.St → Hp → Prop, (∀ σ', Ok K G0 H0 ε' σ' G H → Q σ' H) → g vs σ H Q
theorem eg_name {i : Nat} : EvG K (gName i) ε d (ε.set i (.dat d)) := fun G0 H0 σ G H v o r Q q => q _ (o.store ⟨v, rfl, r⟩ (.inl rfl))
theorem egs_nil : EvGs K gNil ε [] ε := fun G0 H0 σ G H v o r Q q => by
  cases r
  exact ⟨rfl, q σ o⟩
theorem egs_cons {g : TG} {gs : TGs} {ε' ε'' : List Sl} (h : EvG K g ε d ε') (hr : EvGs K gs ε' ds ε'') : EvGs K (gCons g gs) ε (d :: ds) ε'' := fun G0 H0 σ G H v o r Q q => by
  cases r with
  | cons a b => exact ⟨_, _, rfl, h G0 H0 σ G H _ o a _ fun σ' o' => hr G0 H0 σ' G H _ o' b _ q⟩
theorem eg_tup {gs : TGs} {n : Nat} {ε' : List Sl} (h : EvGs K gs ε ds ε') (hn : ds.length = n := by rfl) : EvG K (gTup K n gs) ε (.tup ds) ε' := fun G0 H0 σ G H v o r Q q => by
  cases r with
  | tup s r => exact ⟨_, _, rfl, sameT o.up.le s, by rw [r.len]; exact hn, h G0 H0 σ G H _ o r Q q⟩
theorem eg_two {i j : Nat} {a b : Dat} : EvG K (gTup K 2 (gCons (gName i) (gCons (gName j) gNil))) ε (.tup [a, b]) ((ε.set i (.dat a)).set j (.dat b)) := eg_tup (egs_cons eg_name (egs_cons eg_name egs_nil))
/-- for target in a walk: I tells the slots by the turn -/
theorem ex_for {wi : TI} {g : TG} (I : Nat → List Sl → Prop) (h : EvW K wi ε ds) (h0 : I 0 ε)
    (hs : ∀ i d ε', ds[i]? = some d → I i ε' → ∃ ε'', EvG K g ε' d ε'' ∧ ExS K t ε'' (Turns Φ (I (i + 1)) fun e => ExS K u e Φ)) (hd : ∀ ε', I ds.length ε' → ExS K u ε' Φ) :
    ExS K (tSeq (tFor wi g t) u) ε Φ := fun G0 H0 σ G H D o w => h G0 H0 σ G H o _ fun J G1 H1 o1 u1 W => by
  refine ⟨fun i m σ' H' => m = ds.length - i ∧ i ≤ ds.length ∧ ∃ ε' G', I i ε' ∧ Ok K G0 H0 ε' σ' G' H' ∧ Same G1 G', ⟨ds.length, by simp, Nat.zero_le _, ε, G1, h0, o1, .refl _⟩, ?_⟩
  rintro i m σ' H' ⟨rfl, hi, ε', G', hI, o', s'⟩
  obtain ⟨W1, W2⟩ := W i G' H' s' o'.up.le
  by_cases hlt : i < ds.length
  · obtain ⟨go, yl⟩ := W1 _ (List.getElem?_eq_getElem hlt)
    obtain ⟨ε'', hg, hb⟩ := hs i _ ε' (List.getElem?_eq_getElem hlt) hI
    refine .inr ⟨go, fun σ2 H2 => ∃ e G2, I (i + 1) e ∧ Ok K G0 H0 e σ2 G2 H2 ∧ Same G1 G2, fun σ2 H2 ⟨e, G2, a, b, c⟩ => ⟨ds.length - (i + 1), by omega, rfl, hlt, e, G2, a, b, c⟩, fun x H3 y => ?_⟩
    obtain ⟨G3, u3, r3⟩ := yl x H3 y
    have o3 := o'.step u3
    have s3 := s'.trans u3.g
    refine hg G0 H0 σ' G3 H3 x o3 r3 _ fun σ4 o4 => ?_
    exact hb G0 H0 σ4 G3 H3 _ o4 ⟨fun e σ2 G2 H2 p o2 s2 => ⟨e, G2, p, o2, s3.trans s2⟩, fun e σ2 G2 H2 p o2 s2 => p G0 H0 σ2 G2 H2 D o2 (w.up (u1.g.trans (s3.trans s2))), fun e σ2 G2 H2 p o2 s2 => ⟨e, G2, p, o2, s3.trans s2⟩, fun r v G2 H2 p q => w.rt r v G2 H2 p q⟩
  · have e : i = ds.length := by omega
    subst e
    exact .inl ⟨W2 (Nat.le_refl _), hd ε' hI G0 H0 σ' G' H' D o' (w.up (u1.g.trans s'))⟩
/-- .. the usual case: one name, a body by the item's number -/
theorem ex_for1 {wi : TI} {j : Nat} (I : Nat → List Sl → Prop) (h : EvW K wi ε ds) (h0 : I 0 ε)
    (hs : ∀ i d ε', ds[i]? = some d → I i ε' → ExS K t (ε'.set j (.dat d)) (Turns Φ (I (i + 1)) fun e => ExS K u e Φ)) (hd : ∀ ε', I ds.length ε' → ExS K u ε' Φ) :
    ExS K (tSeq (tFor wi (gName j) t) u) ε Φ := ex_for I h h0 (fun i d ε' a b => ⟨_, eg_name, hs i d ε' a b⟩) hd

end
end Pu
set_option Elab.async false
set_option linter.all false
set_option maxRecDepth 100000
set_option maxHeartbeats 4000000
set_option autoImplicit false
namespace Pu
open PySem PySem.Spec PyProof.Rows L2
section
variable {K : PySem.W.Frag} {ε : List Sl} {te ta tb tx : TE} {tu : TA} {tt : TT} {x y z d : Dat} {ds es : List Dat} {s t u : TS} {Φ : Out → Prop}
/-! ### what is walked -/
theorem walks_list {B : Hp} {a : Addr} {xs : List V} (sq : SqL K B a xs) (rl : RL K B xs ds) : Walks K (Itl K a) B ds := fun i G H s1 s2 =>
  have sH : SqL K H a xs := (s1.trans s2).seq sq
  ⟨fun d hd => by
    obtain ⟨v, hv, r⟩ := rl.getD hd
    exact ⟨⟨xs, v, sH, hv⟩, fun x H' y => by
      obtain ⟨e, y⟩ := y
      subst e
      have := y xs sH
      rw [hv] at this
      cases this
      exact ⟨G, .refl s2, r.up s1⟩⟩, fun hl => ⟨xs, sH, by rw [rl.len]; exact hl⟩⟩
theorem walks_tup {B : Hp} {a : Addr} {xs : List V} (sq : SqT K B a xs) (rl : RL K B xs ds) : Walks K (Itt K a) B ds := fun i G H s1 s2 =>
  have sH : SqT K H a xs := sameT (s1.trans s2) sq
  ⟨fun d hd => by
    obtain ⟨v, hv, r⟩ := rl.getD hd
    exact ⟨⟨xs, v, sH, hv⟩, fun x H' y => by
      obtain ⟨e, y⟩ := y
      subst e
      have := y xs sH
      rw [hv] at this
      cases this
      exact ⟨G, .refl s2, r.up s1⟩⟩, fun hl => ⟨xs, sH, by rw [rl.len]; exact hl⟩⟩
theorem evw_list (h : EvD K te ε (.lst ds)) : EvW K (iList K te) ε ds := fun G0 H0 σ G H o Q q => h G0 H0 σ G H o _ fun v G1 H1 o1 u1 r1 => by
  cases r1 with
  | lst sq rl => exact ⟨_, rfl, ⟨_, o1.up.le.seq sq⟩, q _ G1 H1 o1 u1 (walks_list sq rl)⟩
theorem evw_tup (h : EvD K te ε (.tup ds)) : EvW K (iTup K te) ε ds := fun G0 H0 σ G H o Q q => h G0 H0 σ G H o _ fun v G1 H1 o1 u1 r1 => by
  cases r1 with
  | tup sq rl => exact ⟨_, rfl, ⟨_, sameT o1.up.le sq⟩, q _ G1 H1 o1 u1 (walks_tup sq rl)⟩
/-- 0, 1, .. below n -/
def fromto (lo : Int) (n : Nat) : List Dat := (List.range n).map fun (i : Nat) => Dat.int (lo + (i : Int))
theorem fromto_len (lo : Int) (n : Nat) : (fromto lo n).length = n := by simp [fromto]
theorem fromto_get {lo : Int} {n i : Nat} {d : Dat} (h : (fromto lo n)[i]? = some d) : i < n ∧ d = .int (lo + i) := by
  have hi : i < n := by
    have := (List.getElem?_eq_some_iff.mp h).1
    rwa [fromto_len] at this
  refine ⟨hi, ?_⟩
  unfold fromto at h
  rw [List.getElem?_map, List.getElem?_range hi] at h
  cases h
  rfl
theorem walks_range {B : Hp} {lo : Int} {n : Nat} : Walks K (Itr lo n) B (fromto lo n) := fun i G H s1 s2 =>
  ⟨fun d hd => by
    obtain ⟨hi, e⟩ := fromto_get hd
    subst e
    exact ⟨hi, fun x H' y => by
      obtain ⟨e, y⟩ := y
      subst e y
      exact ⟨G, .refl s2, .int _⟩⟩, fun hl => by rw [fromto_len] at hl; exact hl⟩
theorem evw_rng1 {n : Int} (h : EvAH K tu ε [.int n]) (h1 : -(2 ^ 62) ≤ n ∧ n < 2 ^ 62) : EvW K (iRng1 tu) ε (fromto 0 n.toNat) := fun G0 H0 σ G H o Q q => h G0 H0 σ G H o _ fun v G1 H1 o1 u1 r1 => by
  cases r1 with
  | cons a b =>
    cases a
    cases b
    exact ⟨n, rfl, h1.1, h1.2, q _ G1 H1 o1 u1 walks_range⟩
theorem evw_rng2 {lo n : Int} (h : EvAH K tu ε [.int lo, .int n]) (h1 : -(2 ^ 62) ≤ lo ∧ lo < 2 ^ 62 ∧ -(2 ^ 62) ≤ n ∧ n < 2 ^ 62) : EvW K (iRng2 tu) ε (fromto lo (n - lo).toNat) := fun G0 H0 σ G H o Q q => h G0 H0 σ G H o _ fun v G1 H1 o1 u1 r1 => by
  cases r1 with
  | cons a b =>
    cases a
    cases b with
    | cons a b =>
      cases a
      cases b
      exact ⟨lo, n, rfl, h1, q _ G1 H1 o1 u1 walks_range⟩
def zipD (xs ys : List Dat) : List Dat := List.zipWith (fun a b => Dat.tup [a, b]) xs ys
def enumD (xs : List Dat) : List Dat := xs.mapIdx fun i a => Dat.tup [.int i, a]
theorem walks_zip {B : Hp} {a b : Addr} {xs ys : List V} (sq : SqL K B a xs) (rl : RL K B xs ds) (sq2 : SqL K B b ys) (rl2 : RL K B ys es) : Walks K (Itz K a b) B (zipD ds es) := fun i G H s1 s2 =>
  have sA : SqL K H a xs := (s1.trans s2).seq sq
  have sB : SqL K H b ys := (s1.trans s2).seq sq2
  ⟨fun d hd => by
    unfold zipD at hd
    rw [List.getElem?_zipWith] at hd
    cases e1 : ds[i]? with
    | none => rw [e1] at hd; simp at hd
    | some d1 =>
      cases e2 : es[i]? with
      | none => rw [e1, e2] at hd; simp at hd
      | some d2 =>
        rw [e1, e2] at hd
        simp at hd
        subst hd
        obtain ⟨v, hv, r⟩ := rl.getD e1
        obtain ⟨w, hw, r2⟩ := rl2.getD e2
        refine ⟨⟨xs, ys, v, w, sA, sB, hv, hw⟩, fun x H' y => ?_⟩
        obtain ⟨T, x', y', rfl, hT, rfl, f1, f2⟩ := y
        have q1 := f1 xs sA
        have q2 := f2 ys sB
        rw [hv] at q1
        rw [hw] at q2
        cases q1
        cases q2
        have uu : Up G H (upd G T (.tup [v, w])) (upd H T (.tup [v, w])) := .lay s2 hT
        exact ⟨_, uu, .tup (.inl (.inl upd_same)) (.cons ((r.up s1).up uu.g) (.one ((r2.up s1).up uu.g)))⟩, fun hl => ⟨xs, ys, sA, sB, by
    unfold zipD at hl
    rw [List.length_zipWith] at hl
    rw [rl.len, rl2.len]
    omega⟩⟩
theorem evw_zip (h : EvA K tu ε [.lst ds, .lst es]) : EvW K (iZip K tu) ε (zipD ds es) := fun G0 H0 σ G H o Q q => h G0 H0 σ G H o _ fun v G1 H1 o1 u1 r1 => by
  cases r1 with
  | cons a b =>
    cases b with
    | cons b c =>
      cases c
      cases a with
      | lst sq rl =>
        cases b with
        | lst sq2 rl2 => exact ⟨_, _, _, _, rfl, o1.up.le.seq sq, o1.up.le.seq sq2, q _ G1 H1 o1 u1 (walks_zip sq rl sq2 rl2)⟩
theorem walks_enum {B : Hp} {a : Addr} {xs : List V} (sq : SqL K B a xs) (rl : RL K B xs ds) : Walks K (Ite K a) B (enumD ds) := fun i G H s1 s2 =>
  have sA : SqL K H a xs := (s1.trans s2).seq sq
  ⟨fun d hd => by
    unfold enumD at hd
    rw [List.getElem?_mapIdx] at hd
    cases e1 : ds[i]? with
    | none => rw [e1] at hd; simp at hd
    | some d1 =>
      rw [e1] at hd
      simp at hd
      subst hd
      obtain ⟨v, hv, r⟩ := rl.getD e1
      refine ⟨⟨xs, v, sA, hv⟩, fun x H' y => ?_⟩
      obtain ⟨T, x', rfl, hT, rfl, f1⟩ := y
      have q1 := f1 xs sA
      rw [hv] at q1
      cases q1
      have uu : Up G H (upd G T (.tup [.int (i : Nat), v])) (upd H T (.tup [.int (i : Nat), v])) := .lay s2 hT
      exact ⟨_, uu, .tup (.inl (.inl upd_same)) (.cons (.int _) (.one ((r.up s1).up uu.g)))⟩, fun hl => ⟨xs, sA, by
    unfold enumD at hl
    rw [List.length_mapIdx] at hl
    rw [rl.len]
    exact hl⟩⟩
theorem evw_enum (h : EvA K tu ε [.lst ds]) : EvW K (iEnum K tu) ε (enumD ds) := fun G0 H0 σ G H o Q q => h G0 H0 σ G H o _ fun v G1 H1 o1 u1 r1 => by
  cases r1 with
  | cons a b =>
    cases b
    cases a with
    | lst sq rl => exact ⟨_, _, rfl, o1.up.le.seq sq, q _ G1 H1 o1 u1 (walks_enum sq rl)⟩
theorem rev_get {α : Type} {xs : List α} {i : Nat} (h : i < xs.length) : xs.reverse[i]? = xs[xs.length - 1 - i]? := by
  rw [List.getElem?_reverse h]
theorem walks_rev {B : Hp} {a : Addr} {xs : List V} (sq : SqL K B a xs) (rl : RL K B xs ds) : Walks K (Itv K a xs.length) B ds.reverse := fun i G H s1 s2 =>
  have sA : SqL K H a xs := (s1.trans s2).seq sq
  ⟨fun d hd => by
    have hi : i < ds.length := by
      have := (List.getElem?_eq_some_iff.mp hd).1
      rwa [List.length_reverse] at this
    rw [rev_get hi] at hd
    obtain ⟨v, hv, r⟩ := rl.getD hd
    rw [← rl.len] at hv
    refine ⟨⟨by rw [rl.len]; exact hi, xs, v, sA, hv⟩, fun x H' y => ?_⟩
    obtain ⟨rfl, f1⟩ := y
    have q1 := f1 xs sA
    rw [hv] at q1
    cases q1
    exact ⟨G, .refl s2, r.up s1⟩, fun hl => by
    show xs.length ≤ i
    rw [rl.len]
    rwa [List.length_reverse] at hl⟩
theorem evw_rev (h : EvA K tu ε [.lst ds]) : EvW K (iRev K tu) ε ds.reverse := fun G0 H0 σ G H o Q q => h G0 H0 σ G H o _ fun v G1 H1 o1 u1 r1 => by
  cases r1 with
  | cons a b =>
    cases b
    cases a with
    | lst sq rl => exact ⟨_, _, rfl, o1.up.le.seq sq, q _ G1 H1 o1 u1 (walks_rev sq rl)⟩
/-- the signs of a text -/
def signs (x : Str) : List Dat := x.cps.toList.map fun c => Dat.str ⟨#[c]⟩
theorem walks_str {B : Hp} {x : Str} : Walks K (Its x) B (signs x) := fun i G H s1 s2 =>
  ⟨fun d hd => by
    unfold signs at hd
    rw [List.getElem?_map] at hd
    cases e : x.cps.toList[i]? with
    | none => rw [e] at hd; cases hd
    | some c =>
      rw [e] at hd
      cases hd
      have e' : x.cps[i]? = some c := by simpa using e
      have hi : i < x.cps.size := by
        rw [Array.getElem?_eq_some_iff] at e'
        exact e'.1
      refine ⟨hi, fun v H' y => ?_⟩
      obtain ⟨rfl, c', h', rfl⟩ := y
      rw [e'] at h'
      cases h'
      exact ⟨G, .refl s2, .str _⟩, fun hl => by
    unfold signs at hl
    rw [List.length_map] at hl
    show x.cps.size ≤ i
    simpa using hl⟩
theorem evw_str {x : Str} (h : EvH K te ε (.str x)) : EvW K (iStr te) ε (signs x) := fun G0 H0 σ G H o Q q => h G0 H0 σ G H o _ fun v G1 H1 o1 u1 r1 => by
  cases r1
  exact ⟨x, rfl, q _ G1 H1 o1 u1 walks_str⟩

/-! ### comprehensions -/
def wipeE (ε : List Sl) : List Nat → List Sl
  | [] => ε
  | v :: vs => (wipeE ε vs).set v .no
theorem Ok.wipe {G0 H0 G H : Hp} {σ : L2.St} (o : Ok K G0 H0 ε σ G H) : ∀ vs : List Nat, Ok K G0 H0 (wipeE ε vs) (L2.wipe σ vs) G H
  | [] => o
  | v :: vs => (Ok.wipe o vs).drop none (.inl rfl)
/-- forgetting what a target stored brings the wiped slots again -/
def Wiped (g : TG) (vs : List Nat) : Prop := ∀ (σ : L2.St) (v : V) (H : Hp) (Q : L2.St → Hp → Prop), g v (L2.wipe σ vs) H Q → g v (L2.wipe σ vs) H fun σ' H' => L2.wipe σ' vs = L2.wipe σ vs ∧ Q σ' H'
theorem wiped_name {j : Nat} : Wiped (gName j) [j] := fun σ v H Q h => ⟨by
  show (((σ.set j none).set j (some v)).set j none) = σ.set j none
  rw [List.set_set, List.set_set], h⟩
theorem wiped_two {i j n : Nat} (hij : i ≠ j) : Wiped (gTup K n (gCons (gName i) (gCons (gName j) gNil))) [i, j] := fun σ v H Q h => by
  obtain ⟨a, xs, e, s, l, v1, r1, e1, v2, r2, e2, e3, q⟩ := h
  refine ⟨a, xs, e, s, l, v1, r1, e1, v2, r2, e2, e3, ?_, q⟩
  show ((((((σ.set j none).set i none).set i (some v1)).set j (some v2)).set j none).set i none) = (σ.set j none).set i none
  apply List.ext_getElem?
  intro k
  simp only [List.getElem?_set, List.length_set]
  by_cases h1 : i = k
  · simp [h1]
  · by_cases h2 : j = k
    · subst h2
      simp [h1]
    · simp [h1, h2]
theorem evn_lc {α : Type} {wi : TI} {g : TG} {vs : List Nat} (xs : List α) (inj : α → Dat) (p : α → Bool) (f : α → Dat) (h : EvW K wi ε (xs.map inj)) (hw : Wiped g vs)
    (hs : ∀ x, x ∈ xs → ∃ ε', EvG K g (wipeE ε vs) (inj x) ε' ∧ EvT K tt ε' (p x) ∧ (p x = true → EvD K te ε' (f x))) (hl : xs.length < 16777216) :
    EvN K (tLc wi g tt te vs) ε ((xs.filter p).map f) := fun G0 H0 σ G H o Q q => h G0 H0 σ G H o _ fun J G1 H1 o1 u1 W D hD => by
  have hg1 : G1 D = none := o1.up.le.free hD
  -- the list at D, i turns on
  let A : Nat → Hp → Prop := fun i H' => ∃ G' ys, Ok K G0 H0 ε σ G' H' ∧ Up G1 H1 G' H' ∧ H' D = some (.lst ys) ∧ G' D = none ∧ RL K G' ys (((xs.take i).filter p).map f)
  refine ⟨fun i m H' => m = xs.length - i ∧ i ≤ xs.length ∧ A i H', ⟨xs.length, by simp, Nat.zero_le _, G1, [], ?_, .own o1.up.le hD, upd_same, hg1, .nil⟩, ?_⟩
  · exact o1.step (.own o1.up.le hD)
  rintro i m H' ⟨rfl, hi, G', ys, o', u', hp', hg', r'⟩
  obtain ⟨W1, W2⟩ := W i G' H' u'.g o'.up.le
  by_cases hlt : i < xs.length
  · have hx : xs[i]? = some xs[i] := List.getElem?_eq_getElem hlt
    obtain ⟨go, yl⟩ := W1 (inj xs[i]) (by rw [List.getElem?_map, hx]; rfl)
    obtain ⟨ε', hg, ht, he⟩ := hs xs[i] (List.getElem_mem hlt)
    refine .inr ⟨go, fun H2 => A (i + 1) H2, fun H2 a => ⟨xs.length - (i + 1), by omega, rfl, hlt, a⟩, fun x H3 y => ?_⟩
    obtain ⟨G3, u3, r3⟩ := yl x H3 y
    have o3 := o'.step u3
    have nD3 : G3 D = none := u3.new D hg' (by rw [hp']; simp)
    refine hw σ x H3 _ (hg G0 H0 _ G3 H3 x (o3.wipe vs) r3 _ fun σ4 o4 => ?_)
    refine ht G0 H0 σ4 G3 H3 o4 _ fun G5 H5 o5 u5 => ?_
    have hD5 : H5 D = some (.lst ys) := u5.h _ _ (u3.h _ _ hp')
    have nD5 : G5 D = none := u5.new D nD3 (by rw [u3.h _ _ hp']; simp)
    have tk : xs.take (i + 1) = xs.take i ++ [xs[i]] := by rw [List.take_add_one, hx]; rfl
    cases hb : p xs[i] with
    | false =>
      rw [if_neg Bool.false_ne_true]
      refine ⟨G5, ys, o3.step u5, (u'.trans u3).trans u5, hD5, nD5, ?_⟩
      rw [tk, List.filter_append, List.filter_cons_of_neg (by simp [hb]), List.filter_nil, List.append_nil]
      exact r'.up (u3.trans u5).g
    | true =>
      rw [if_pos rfl]
      refine he hb G0 H0 σ4 G5 H5 o5 _ fun v G6 H6 o6 u6 r6 => ?_
      have hD6 : H6 D = some (.lst ys) := u6.h _ _ hD5
      have nD6 : G6 D = none := u6.new D nD5 (by rw [hD5]; simp)
      refine ⟨ys, hD6, size_lt ?_, G6, ys ++ [v], ?_, ?_, upd_same, nD6, ?_⟩
      · rw [r'.len, List.length_map]
        have := List.length_filter_le p (xs.take i)
        rw [List.length_take] at this
        omega
      · have o7 := (o3.step u5).step u6
        refine ⟨o7.up.write nD6 (o1.up.h.free hD), fun k e hk => ?_, o7.ne, o7.len⟩
        obtain ⟨w, a, b⟩ := o7.get k e hk
        refine ⟨w, a, ?_⟩
        cases e with
        | no => trivial
        | dat d => exact b
        | own es =>
          obtain ⟨p2, zs, e2, hp2, hg2, h02, r2⟩ := b
          subst e2
          have np : p2 ≠ D := fun z => by
            subst z
            exact o1.fresh hD hk rfl a
          exact ⟨p2, zs, rfl, by rw [upd_ne np]; exact hp2, hg2, h02, r2⟩
        | ownD ks es =>
          obtain ⟨p2, zs, e2, hp2, hg2, h02, e3, r2⟩ := b
          subst e2
          have np : p2 ≠ D := fun z => by
            subst z
            exact o1.fresh hD hk rfl a
          exact ⟨p2, zs, rfl, by rw [upd_ne np]; exact hp2, hg2, h02, e3, r2⟩
      · exact ((u'.trans u3).trans (u5.trans u6)).write nD6 hD
      · rw [tk, List.filter_append, List.map_append, List.filter_cons_of_pos hb, List.filter_nil]
        exact ((r'.up (u3.trans (u5.trans u6)).g)).app (.one r6)
  · have e : i = xs.length := by omega
    subst e
    rw [List.take_length] at r'
    exact .inl ⟨W2 (by rw [List.length_map]; exact Nat.le_refl _), q D ys G' H' o' (u1.trans u') (u1.h.free hD) hp' hg' r'⟩
/-- one name, no test -/
theorem evn_lc1 {α : Type} {wi : TI} {j : Nat} (xs : List α) (inj : α → Dat) (f : α → Dat) (h : EvW K wi ε (xs.map inj)) (hs : ∀ x, x ∈ xs → EvD K te (ε.set j (.dat (inj x))) (f x)) (hl : xs.length < 16777216) :
    EvN K (tLc wi (gName j) tYes te [j]) ε (xs.map f) := by
  have := evn_lc (te := te) (tt := tYes) xs inj (fun _ => true) f h wiped_name (fun x hx => ⟨_, eg_name, evt_yes, fun _ => by
    show EvD K te ((ε.set j .no).set j (.dat (inj x))) (f x)
    rw [List.set_set]
    exact hs x hx⟩) hl
  rwa [List.filter_eq_self.mpr (fun _ _ => rfl)] at this
theorem evn_lcT {α : Type} {wi : TI} {j : Nat} (xs : List α) (inj : α → Dat) (p : α → Bool) (f : α → Dat) (h : EvW K wi ε (xs.map inj)) (hs : ∀ x, x ∈ xs → EvT K tt (ε.set j (.dat (inj x))) (p x) ∧ (p x = true → EvD K te (ε.set j (.dat (inj x))) (f x))) (hl : xs.length < 16777216) :
    EvN K (tLc wi (gName j) tt te [j]) ε ((xs.filter p).map f) :=
  evn_lc xs inj p f h wiped_name (fun x hx => ⟨_, eg_name, by
    show EvT K tt ((ε.set j .no).set j (.dat (inj x))) (p x) ∧ (p x = true → EvD K te ((ε.set j .no).set j (.dat (inj x))) (f x))
    rw [List.set_set]
    exact hs x hx⟩) hl
end
end Pu
set_option Elab.async false
set_option linter.all false
set_option maxRecDepth 100000
set_option maxHeartbeats 4000000
set_option autoImplicit false
namespace Pu
open PySem PySem.Spec PyProof.Rows L2
/-! ### operators, whatever the kinds -/
section
variable {X : Cx}
def rCatR (K : PySem.W.Frag) : R2 := fun x y H Q => ∃ l b xs zs, x = .ref l ∧ y = .ref b ∧ SqL K H l xs ∧ SqL K H b zs ∧ xs.length + zs.length ≤ sizeLine ∧ ∀ p, H p = none → Q (.ref p) (upd H p (.lst (xs ++ zs)))
theorem op_catR : OpR X (binaryOp .Add) (rCatR X.K) := by
  intro pins s σ H x y v u Q I rx ry h
  obtain ⟨l, b, xs, zs, rfl, rfl, hH, hB, hz, q⟩ := h
  cases rx
  cases ry
  obtain ⟨its, r, ⟨⟨cls, dd, data, sl⟩, n, ho, hc, hdn, hd⟩, z1⟩ := I.list hH
  obtain ⟨its2, r2, ⟨⟨cls2, dd2, data2, sl2⟩, n2, ho2, hc2, hdn2, hd2⟩, z2⟩ := I.list hB
  simp only at hc hd hc2 hd2
  subst hc hd hc2 hd2
  have hl := r.length
  have hl2 := r2.length
  refine concat_meets ⟨_, ho, rfl⟩ ⟨_, ho2, rfl⟩ noFill_list_add seq_list_add PySem.F.slot_list_add PySem.F.entry_list_add (PySem.F.args_list_add_2 _ _)
    (list_addW l b its.toArray its2.toArray n n2 dd dd2 sl sl2 (by rw [List.size_toArray, List.size_toArray]; omega)) ⟨ho, ho2, ?_⟩
  have ea : its.toArray ++ its2.toArray = (its ++ its2).toArray := by simp
  rw [ea]
  exact ⟨.ref _, _, I.lnew (t' := s.toks) (r.append r2) (by rw [List.length_append]; omega), rfl, q _ I.fresh⟩
def rAddU (K : PySem.W.Frag) : R2 := fun x y H Q => (rI0 (fun i j => .int (i + j)) x y H Q) ∨ (∃ i j, x = .str i ∧ y = .str j ∧ i.length + j.length ≤ sizeLine ∧ Q (.str (i ++ j)) H) ∨ rCatR K x y H Q ∨ rCatA K x y H Q ∨ (∃ i k, x = .int i ∧ y = .bl k ∧ Q (.int (i + b2i k)) H)
theorem op_addU : OpR X (binaryOp .Add) (rAddU X.K) := op_add.or (op_add_str.or (op_catR.or (op_catA.or op_add_ib)))
def rMulU : R2 := fun x y H Q => rI CMul (fun i j => .int (i * j)) x y H Q ∨ rI CMulW (fun i j => .int (i * j)) x y H Q
theorem op_mulU : OpR X (binaryOp .Mult) rMulU := op_mul.or op_mulW
end
section
variable {K : PySem.W.Frag}
/-- ints -/
theorem rd_I0 {g : Int → Int → Int} {i j : Int} : RD K (rI0 fun i j => .int (g i j)) (.int i) (.int j) (.int (g i j)) := fun vx vy G H e rx ry Q q => by
  cases rx
  cases ry
  exact ⟨i, j, rfl, rfl, q _ G H (.refl e) (.int _)⟩
theorem rd_B0 {g : Int → Int → Bool} {i j : Int} : RD K (rI0 fun i j => .bl (g i j)) (.int i) (.int j) (.bl (g i j)) := fun vx vy G H e rx ry Q q => by
  cases rx
  cases ry
  exact ⟨i, j, rfl, rfl, q _ G H (.refl e) (.bl _)⟩
theorem rd_I {C : Int → Int → Prop} {g : Int → Int → Int} {i j : Int} (h : C i j) : RD K (rI C fun i j => .int (g i j)) (.int i) (.int j) (.int (g i j)) := fun vx vy G H e rx ry Q q => by
  cases rx
  cases ry
  exact ⟨i, j, rfl, rfl, h, q _ G H (.refl e) (.int _)⟩
theorem rd_mulR {i j : Int} (h : -(2 ^ 64) < j ∧ j < 2 ^ 64) : RD K rMulU (.int i) (.int j) (.int (i * j)) := fun vx vy G H e rx ry Q q => .inl (rd_I (C := CMul) (.inr h) vx vy G H e rx ry Q q)
theorem rd_mulL {i j : Int} (h : -(2 ^ 64) < i ∧ i < 2 ^ 64) : RD K rMulU (.int i) (.int j) (.int (i * j)) := fun vx vy G H e rx ry Q q => .inl (rd_I (C := CMul) (.inl h) vx vy G H e rx ry Q q)
theorem rd_mulW {i j : Int} (h : CMulW i j) : RD K rMulU (.int i) (.int j) (.int (i * j)) := fun vx vy G H e rx ry Q q => .inr (rd_I (C := CMulW) h vx vy G H e rx ry Q q)
theorem rd_fdiv {i j : Int} (h : 0 < j) (h2 : j.natAbs.log2 < 9000) : RD K (rI CDivW fun i j => .int (i / j)) (.int i) (.int j) (.int (i / j)) := rd_I (C := CDivW) ⟨h, h2⟩
theorem rd_add_int {i j : Int} : RD K (rAddU K) (.int i) (.int j) (.int (i + j)) := fun vx vy G H e rx ry Q q => .inl (rd_I0 vx vy G H e rx ry Q q)
theorem rd_add_str {i j : Str} (h : i.length + j.length ≤ 16777216) : RD K (rAddU K) (.str i) (.str j) (.str (i ++ j)) := fun vx vy G H e rx ry Q q => by
  cases rx
  cases ry
  exact .inr (.inl ⟨i, j, rfl, rfl, size_ok h, q _ G H (.refl e) (.str _)⟩)
theorem rdn_add_lst {xs ys : List Dat} (h : xs.length + ys.length ≤ 16777216) : RDN K (rAddU K) (.lst xs) (.lst ys) (xs ++ ys) := fun vx vy G H e rx ry Q q => by
  cases rx with
  | lst s r =>
    cases ry with
    | lst s2 r2 =>
      refine .inr (.inr (.inl ⟨_, _, _, _, rfl, rfl, e.seq s, e.seq s2, size_ok (by rw [r.len, r2.len]; exact h), fun p hp => ?_⟩))
      exact q p _ _ (same_upd hp) hp upd_same (r.app r2)
theorem rd_add_tup {xs ys : List Dat} (h : xs.length + ys.length ≤ 16777216) : RD K (rAddU K) (.tup xs) (.tup ys) (.tup (xs ++ ys)) := fun vx vy G H e rx ry Q q => by
  cases id rx with
  | @tup a us _ s r =>
    cases id ry with
    | @tup b ws _ s2 r2 =>
      refine .inr (.inr (.inr (.inl ⟨_, _, _, _, rfl, rfl, sameT e s, sameT e s2, size_ok (by rw [r.len, r2.len]; exact h), fun hx => ?_, fun hx hy => ?_, fun hx hy p hp => ?_⟩)))
      · subst hx
        cases r
        exact q _ G H (.refl e) ry
      · subst hy
        cases r2
        rw [List.append_nil] at q
        exact q _ G H (.refl e) rx
      · have u : Up G H (upd G p (.tup (us ++ ws))) (upd H p (.tup (us ++ ws))) := .lay e hp
        exact q _ _ _ u (.tup (.inl (.inl upd_same)) ((r.app r2).up u.g))

/-! ### == -/
mutual
def toPy : Dat → PyData
  | .non => .none
  | .bl b => .bool b
  | .int i => .int i
  | .str x => .str x
  | .tup xs => .tuple (toPys xs)
  | .lst xs => .list (toPys xs)
  | .ins _ _ _ => .none
  | .dic _ _ => .none
  | .dit _ _ => .none
  | .ty _ => .none
  | .cls _ => .none
def toPys : List Dat → List PyData
  | [] => []
  | d :: ds => toPy d :: toPys ds
end
mutual
/-- nothing but flat things, lists and tuples, at most n deep -/
def Dat.plain : Nat → Dat → Bool
  | _, .non => true
  | _, .bl _ => true
  | _, .int _ => true
  | _, .str x => PyData.strOk x
  | n + 1, .tup xs => Dat.plains n xs
  | n + 1, .lst xs => Dat.plains n xs
  | _, _ => false
def Dat.plains : Nat → List Dat → Bool
  | _, [] => true
  | n, d :: ds => Dat.plain n d && Dat.plains n ds
end
mutual
theorem dp_of {G : Hp} : ∀ (n : Nat) (d : Dat) (v : V), Dat.plain n d = true → R K G v d → Dp K G v (toPy d)
  | _, .non, _, _, h => by cases h; exact .non
  | _, .bl b, _, _, h => by cases h; exact .bl b
  | _, .int i, _, _, h => by cases h; exact .int i
  | _, .str x, _, _, h => by cases h; exact .str x
  | n + 1, .tup ds, _, p, h => by
    cases h with
    | tup s r => exact .tup s (dps_of n ds _ (by simpa [Dat.plain] using p) r)
  | n + 1, .lst ds, _, p, h => by
    cases h with
    | lst s r => exact .lst s (dps_of n ds _ (by simpa [Dat.plain] using p) r)
  | 0, .tup ds, _, p, h => by simp [Dat.plain] at p
  | 0, .lst ds, _, p, h => by simp [Dat.plain] at p
  | _, .ins _ _ _, _, p, h => by simp [Dat.plain] at p
  | _, .dic _ _, _, p, h => by simp [Dat.plain] at p
  | _, .dit _ _, _, p, h => by simp [Dat.plain] at p
  | _, .ty _, _, p, h => by simp [Dat.plain] at p
  | _, .cls _, _, p, h => by simp [Dat.plain] at p
theorem dps_of {G : Hp} : ∀ (n : Nat) (ds : List Dat) (vs : List V), Dat.plains n ds = true → RL K G vs ds → DpAll K G vs (toPys ds)
  | _, [], _, _, h => by cases h; exact .nil
  | n, d :: ds, _, p, h => by
    cases h with
    | cons a b =>
      have p' : Dat.plain n d = true ∧ Dat.plains n ds = true := by simpa [Dat.plains] using p
      exact .cons (dp_of n d _ p'.1 a) (dps_of n ds _ p'.2 b)
end
mutual
theorem plain_lay : ∀ (n : Nat) (d : Dat), Dat.plain n d = true → (toPy d).canLay0 = true ∧ (toPy d).depth ≤ n
  | _, .non, _ => ⟨rfl, Nat.zero_le _⟩
  | _, .bl b, _ => ⟨rfl, Nat.zero_le _⟩
  | _, .int i, _ => ⟨rfl, Nat.zero_le _⟩
  | _, .str x, p => ⟨by simpa [Dat.plain, toPy, PyData.canLay0] using p, Nat.zero_le _⟩
  | n + 1, .tup ds, p => by
    obtain ⟨a, b⟩ := plains_lay n ds (by simpa [Dat.plain] using p)
    exact ⟨by simpa [toPy, PyData.canLay0] using a, by simpa [toPy, PyData.depth] using b⟩
  | n + 1, .lst ds, p => by
    obtain ⟨a, b⟩ := plains_lay n ds (by simpa [Dat.plain] using p)
    exact ⟨by simpa [toPy, PyData.canLay0] using a, by simpa [toPy, PyData.depth] using b⟩
  | 0, .tup ds, p => by simp [Dat.plain] at p
  | 0, .lst ds, p => by simp [Dat.plain] at p
  | _, .ins _ _ _, p => by simp [Dat.plain] at p
  | _, .dic _ _, p => by simp [Dat.plain] at p
  | _, .dit _ _, p => by simp [Dat.plain] at p
  | _, .ty _, p => by simp [Dat.plain] at p
  | _, .cls _, p => by simp [Dat.plain] at p
theorem plains_lay : ∀ (n : Nat) (ds : List Dat), Dat.plains n ds = true → PyData.canLayAll0 (toPys ds) = true ∧ PyData.depthAll (toPys ds) ≤ n
  | _, [], _ => ⟨rfl, Nat.zero_le _⟩
  | n, d :: ds, p => by
    have p' : Dat.plain n d = true ∧ Dat.plains n ds = true := by simpa [Dat.plains] using p
    obtain ⟨a, b⟩ := plain_lay n d p'.1
    obtain ⟨a2, b2⟩ := plains_lay n ds p'.2
    exact ⟨by simp [toPys, PyData.canLayAll0, a, a2], by simp [toPys, PyData.depthAll]; omega⟩
end
/-- equality as Python tells it -/
def Dat.eqv (a b : Dat) : Bool := PyData.eqv (toPy a) (toPy b)
theorem shaped_of {d : Dat} {n : Nat} (h : Dat.plain n d = true) (hn : n ≤ 64) : SeqAt.shaped (toPy d) = true := by
  obtain ⟨a, b⟩ := plain_lay n d h
  unfold SeqAt.shaped
  rw [a]
  simp
  omega
def rEqU (K : PySem.W.Frag) : R2 := fun x y H Q => rEq x y H Q ∨ rEqD K x y H Q
def rNeU (K : PySem.W.Frag) : R2 := fun x y H Q => rNe x y H Q ∨ rNeD K x y H Q
theorem op_eqU {X : Cx} (hu : X.A.units + 64 < cLine) : OpR X (compareOp .Eq) (rEqU X.K) := op_eq.or (op_eqD hu)
theorem op_neU {X : Cx} (hu : X.A.units + 64 < cLine) : OpR X (compareOp .NotEq) (rNeU X.K) := op_ne.or (op_neD hu)
theorem rd_eq_int {i j : Int} : RD K (rEqU K) (.int i) (.int j) (.bl (i == j)) := fun vx vy G H e rx ry Q q => by
  cases rx
  cases ry
  exact .inl ⟨rfl, by rw [dec_int]; exact q _ G H (.refl e) (.bl _)⟩
theorem rd_eq_str {i j : Str} : RD K (rEqU K) (.str i) (.str j) (.bl (i == j)) := fun vx vy G H e rx ry Q q => by
  cases rx
  cases ry
  exact .inl ⟨rfl, by rw [dec_str]; exact q _ G H (.refl e) (.bl _)⟩
theorem rd_eq_bl {i j : Bool} : RD K (rEqU K) (.bl i) (.bl j) (.bl (i == j)) := fun vx vy G H e rx ry Q q => by
  cases rx
  cases ry
  exact .inl ⟨rfl, by rw [dec_bl]; exact q _ G H (.refl e) (.bl _)⟩
theorem rd_ne_int {i j : Int} : RD K (rNeU K) (.int i) (.int j) (.bl (i != j)) := fun vx vy G H e rx ry Q q => by
  cases rx
  cases ry
  exact .inl ⟨rfl, by rw [dec_int]; exact q _ G H (.refl e) (.bl _)⟩
theorem rd_ne_str {i j : Str} : RD K (rNeU K) (.str i) (.str j) (.bl (i != j)) := fun vx vy G H e rx ry Q q => by
  cases rx
  cases ry
  exact .inl ⟨rfl, by rw [dec_str]; exact q _ G H (.refl e) (.bl _)⟩
theorem rd_eq {x y : Dat} (n m : Nat) (hx : x.plain n = true) (hy : y.plain m = true) (hn : n ≤ 64 := by decide) (hm : m ≤ 64 := by decide) : RD K (rEqU K) x y (.bl (x.eqv y)) := fun vx vy G H e rx ry Q q =>
  .inr ⟨_, _, dp_of n x vx hx (rx.up e), dp_of m y vy hy (ry.up e), shaped_of hx hn, shaped_of hy hm, q _ G H (.refl e) (.bl _)⟩
theorem rd_ne {x y : Dat} (n m : Nat) (hx : x.plain n = true) (hy : y.plain m = true) (hn : n ≤ 64 := by decide) (hm : m ≤ 64 := by decide) : RD K (rNeU K) x y (.bl (!x.eqv y)) := fun vx vy G H e rx ry Q q =>
  .inr ⟨_, _, dp_of n x vx hx (rx.up e), dp_of m y vy hy (ry.up e), shaped_of hx hn, shaped_of hy hm, q _ G H (.refl e) (.bl _)⟩
@[simp] theorem eqv_int (i j : Int) : Dat.eqv (.int i) (.int j) = (i == j) := rfl
@[simp] theorem eqv_str (i j : Str) : Dat.eqv (.str i) (.str j) = (i == j) := rfl
@[simp] theorem eqv_bl (i j : Bool) : Dat.eqv (.bl i) (.bl j) = (i == j) := rfl
@[simp] theorem eqv_non : Dat.eqv .non .non = true := rfl
def eqvs : List Dat → List Dat → Bool
  | [], [] => true
  | x :: xs, y :: ys => x.eqv y && eqvs xs ys
  | _, _ => false
theorem eqvs_all : ∀ xs ys : List Dat, PyData.eqvAll (toPys xs) (toPys ys) = eqvs xs ys
  | [], [] => rfl
  | [], _ :: _ => rfl
  | _ :: _, [] => rfl
  | x :: xs, y :: ys => by
    show (PyData.eqv (toPy x) (toPy y) && PyData.eqvAll (toPys xs) (toPys ys)) = _
    rw [eqvs_all xs ys]
    rfl
@[simp] theorem eqv_tup (xs ys : List Dat) : Dat.eqv (.tup xs) (.tup ys) = eqvs xs ys := by
  show PyData.eqv (.tuple _) (.tuple _) = _
  rw [PyData.eqv, eqvs_all]
@[simp] theorem eqv_lst (xs ys : List Dat) : Dat.eqv (.lst xs) (.lst ys) = eqvs xs ys := by
  show PyData.eqv (.list _) (.list _) = _
  rw [PyData.eqv, eqvs_all]
@[simp] theorem eqvs_nil : eqvs [] [] = true := rfl
@[simp] theorem eqvs_cons (x y : Dat) (xs ys : List Dat) : eqvs (x :: xs) (y :: ys) = (x.eqv y && eqvs xs ys) := rfl
@[simp] theorem eqvs_nc (x : Dat) (xs : List Dat) : eqvs [] (x :: xs) = false := rfl
@[simp] theorem eqvs_cn (x : Dat) (xs : List Dat) : eqvs (x :: xs) [] = false := rfl
theorem eqv_refl {d : Dat} {n : Nat} (h : d.plain n = true) : d.eqv d = true := SeqAt.eqv_refl _ (plain_lay n d h).1
theorem eqvs_ints : ∀ xs ys : List Int, eqvs (xs.map Dat.int) (ys.map Dat.int) = decide (xs = ys)
  | [], [] => rfl
  | [], _ :: _ => rfl
  | _ :: _, [] => rfl
  | x :: xs, y :: ys => by
    rw [List.map_cons, List.map_cons, eqvs_cons, eqvs_ints xs ys, eqv_int]
    exact Bool.eq_iff_iff.mpr (by simp)
theorem eqvs_strs : ∀ xs ys : List Str, eqvs (xs.map Dat.str) (ys.map Dat.str) = decide (xs = ys)
  | [], [] => rfl
  | [], _ :: _ => rfl
  | _ :: _, [] => rfl
  | x :: xs, y :: ys => by
    rw [List.map_cons, List.map_cons, eqvs_cons, eqvs_strs xs ys, eqv_str]
    exact Bool.eq_iff_iff.mpr (by simp)
theorem plains_ints (n : Nat) : ∀ xs : List Int, Dat.plains n (xs.map Dat.int) = true
  | [] => by simp [Dat.plains]
  | x :: xs => by cases n <;> simp [Dat.plains, Dat.plain, plains_ints _ xs]
theorem plains_strs (n : Nat) : ∀ xs : List Str, (∀ x ∈ xs, PyData.strOk x = true) → Dat.plains n (xs.map Dat.str) = true
  | [], _ => by simp [Dat.plains]
  | x :: xs, h => by cases n <;> simp [Dat.plains, Dat.plain, plains_strs _ xs fun y hy => h y (List.mem_cons_of_mem _ hy), h x List.mem_cons_self]
theorem plains_all {n : Nat} : ∀ {xs : List Dat}, (∀ x ∈ xs, x.plain n = true) → Dat.plains n xs = true
  | [], _ => by simp [Dat.plains]
  | x :: xs, h => by simp [Dat.plains, h x List.mem_cons_self, plains_all fun y hy => h y (List.mem_cons_of_mem _ hy)]

/-! ### subscripts -/
section
variable {X : Cx}
end
theorem rd_ixL {xs : List Dat} {i : Int} {d : Dat} (h : atI xs i = some d) : RD K (rIx K) (.lst xs) (.int i) d := fun vx vy G H e rx ry Q q => by
  cases rx with
  | lst s r =>
    cases ry
    obtain ⟨j, hj, hd, _⟩ : ∃ j, ixN xs.length i = some j ∧ xs[j]? = some d ∧ True := by
      unfold atI at h
      cases e : ixN xs.length i with
      | none => rw [e] at h; cases h
      | some j => rw [e] at h; exact ⟨j, rfl, h, trivial⟩
    obtain ⟨v, hv, rv⟩ := r.getD hd
    refine .inl ⟨_, _, i, v, rfl, rfl, e.seq s, ?_, q v G H (.refl e) rv⟩
    unfold atI
    rw [r.len, hj]
    exact hv
theorem rd_ixT {xs : List Dat} {i : Int} {d : Dat} (h : atI xs i = some d) : RD K (rIx K) (.tup xs) (.int i) d := fun vx vy G H e rx ry Q q => by
  cases rx with
  | tup s r =>
    cases ry
    obtain ⟨j, hj, hd, _⟩ : ∃ j, ixN xs.length i = some j ∧ xs[j]? = some d ∧ True := by
      unfold atI at h
      cases e : ixN xs.length i with
      | none => rw [e] at h; cases h
      | some j => rw [e] at h; exact ⟨j, rfl, h, trivial⟩
    obtain ⟨v, hv, rv⟩ := r.getD hd
    refine .inr (.inl ⟨_, _, i, v, rfl, rfl, sameT e s, ?_, q v G H (.refl e) rv⟩)
    unfold atI
    rw [r.len, hj]
    exact hv
theorem atI_map {α : Type} {f : α → Dat} {xs : List α} {k : Int} {x : α} (h0 : 0 ≤ k) (h : xs[k.toNat]? = some x) : atI (xs.map f) k = some (f x) := by
  obtain ⟨n, rfl⟩ := Int.eq_ofNat_of_zero_le h0
  exact atI_nat (by rw [List.getElem?_map]; simp at h; rw [h]; rfl)
theorem atI_int {xs : List Int} {k : Int} (h0 : 0 ≤ k) (h : k < xs.length) : atI (xs.map Dat.int) k = some (.int (xs.getD k.toNat 0)) :=
  atI_map h0 (by
    have : k.toNat < xs.length := by omega
    rw [List.getD_eq_getElem?_getD, List.getElem?_eq_getElem this]
    rfl)
theorem rd_ixS {x : Str} {i : Int} {c : Nat} (hl : x.length ≤ 16777216) (h : atI x.cps.toList i = some c) : RD K (rIx K) (.str x) (.int i) (.str ⟨#[c]⟩) := fun vx vy G H e rx ry Q q => by
  cases rx
  cases ry
  exact .inr (.inr ⟨x, i, c, rfl, rfl, size_ok hl, h, q _ G H (.refl e) (.str _)⟩)

/-! ### in -/
theorem R.flatV {G : Hp} {v : V} {d : Dat} (h : R K G v d) (f : d.flat = true) : flatV v = true := by
  cases h <;> first | rfl | (cases f; done)
theorem RL.flatV {G : Hp} : ∀ {vs : List V} {ds : List Dat}, RL K G vs ds → (∀ d ∈ ds, d.flat = true) → vs.all L2.flatV = true
  | [], _, _, _ => rfl
  | v :: vs, _, h, f => by
    cases h with
    | cons a b =>
      simp only [List.all_cons, Bool.and_eq_true]
      exact ⟨a.flatV (f _ List.mem_cons_self), RL.flatV b fun d hd => f d (List.mem_cons_of_mem _ hd)⟩
theorem eqV_eqv {G : Hp} {v w : V} {d e : Dat} (h : R K G v d) (h2 : R K G w e) (f : d.flat = true) (f2 : e.flat = true) : L2.eqV v w = d.eqv e := by
  cases h <;> cases h2 <;> first | (cases f; done) | (cases f2; done) | rfl
def inD (x : Dat) (xs : List Dat) : Bool := xs.any fun y => y.eqv x
theorem RL.inV {G : Hp} {v : V} {d : Dat} (h : R K G v d) (f : d.flat = true) : ∀ {vs : List V} {ds : List Dat}, RL K G vs ds → (∀ d ∈ ds, d.flat = true) → L2.inV v vs = inD d ds
  | [], _, r, _ => by cases r; rfl
  | w :: vs, _, r, ff => by
    cases r with
    | @cons _ e _ ds a b =>
      show (L2.eqV w v || L2.inV v vs) = (e.eqv d || inD d ds)
      rw [RL.inV h f b fun d hd => ff d (List.mem_cons_of_mem _ hd), eqV_eqv a h (ff _ List.mem_cons_self) f]
theorem rd_inL {x : Dat} {ys : List Dat} (f : x.flat = true) (ff : ∀ d ∈ ys, d.flat = true) : RD K (rIn K false) x (.lst ys) (.bl (inD x ys)) := fun vx vy G H e rx ry Q q => by
  cases ry with
  | lst s r =>
    refine ⟨_, _, rfl, .inl (e.seq s), rx.flatV f, r.flatV ff, ?_⟩
    have := q (.bl (inD x ys)) G H (.refl e) (.bl _)
    rw [← RL.inV rx f r ff] at this
    exact this
theorem rd_inT {x : Dat} {ys : List Dat} (f : x.flat = true) (ff : ∀ d ∈ ys, d.flat = true) : RD K (rIn K false) x (.tup ys) (.bl (inD x ys)) := fun vx vy G H e rx ry Q q => by
  cases ry with
  | tup s r =>
    refine ⟨_, _, rfl, .inr (sameT e s), rx.flatV f, r.flatV ff, ?_⟩
    have := q (.bl (inD x ys)) G H (.refl e) (.bl _)
    rw [← RL.inV rx f r ff] at this
    exact this
theorem rd_ninL {x : Dat} {ys : List Dat} (f : x.flat = true) (ff : ∀ d ∈ ys, d.flat = true) : RD K (rIn K true) x (.lst ys) (.bl (!inD x ys)) := fun vx vy G H e rx ry Q q => by
  cases ry with
  | lst s r =>
    refine ⟨_, _, rfl, .inl (e.seq s), rx.flatV f, r.flatV ff, ?_⟩
    have := q (.bl (!inD x ys)) G H (.refl e) (.bl _)
    rw [← RL.inV rx f r ff] at this
    exact this
theorem inD_int (i : Int) (ns : List Int) : inD (.int i) (ns.map Dat.int) = decide (i ∈ ns) := by
  unfold inD
  rw [List.any_map]
  refine Bool.eq_iff_iff.mpr ?_
  simp only [List.any_eq_true, Function.comp, eqv_int, beq_iff_eq, decide_eq_true_eq]
  exact ⟨fun ⟨x, h, e⟩ => e ▸ h, fun h => ⟨i, h, rfl⟩⟩

/-! ### built-ins -/
/-- the built-in type of a datum -/
def Dat.tyName : Dat → Option String
  | .non => some "NoneType"
  | .bl _ => some "bool"
  | .int _ => some "int"
  | .str _ => some "str"
  | .tup _ => some "tuple"
  | .lst _ => some "list"
  | .dic _ _ => some "dict"
  | .dit _ _ => some "dict"
  | _ => none
theorem R.tyX {G : Hp} {v : V} {d : Dat} (h : R K G v d) {n : String} (e : d.tyName = some n) : TyX K G v (.type n) := by
  cases h with
  | non => cases e; exact .base .non
  | bl b => cases e; exact .base (.bl b)
  | int i => cases e; exact .base (.int i)
  | str x => cases e; exact .base (.str x)
  | tup s r =>
    cases e
    rcases s with (s | ⟨o, s⟩) | ⟨o, its, n, k, c, _⟩
    · exact .base (.tup s)
    · exact .fTuple s
    · exact .kTuple k c
  | lst s r =>
    cases e
    rcases s with (s | ⟨o, s⟩) | ⟨o, its, n, k, c, _⟩
    · exact .base (.lst s)
    · exact .base (.frz s)
    · exact .kList k c
  | ins s r => cases e
  | dic s r => cases e; exact .base (.dK s)
  | dit s r => cases e; exact .base (.dT s)
  | ty n => cases e
  | cls C => cases e
theorem rc_isi {d : Dat} {m n : String} {b : Bool} (e : d.tyName = some m) (h : kitB m n = some b) : RC K (rIsi K) [d, .ty n] (.bl b) := fun vs G H s r Q q => by
  cases r with
  | cons a c =>
    cases c with
    | cons c z =>
      cases z
      cases c
      exact ⟨_, _, _, _, b, rfl, .ty n, (a.up s).tyX e, kit_ty h, q _ G H (.refl s) (.bl _)⟩
def isTyN (m n : String) : Bool := m == n || (m == "bool" && n == "int")
def Dat.isTy (d : Dat) (n : String) : Bool := match d.tyName with
  | some m => isTyN m n
  | none => false
@[simp] theorem isTy_non (n : String) : Dat.isTy .non n = ("NoneType" == n || ("NoneType" == "bool" && n == "int")) := rfl
@[simp] theorem isTy_bl (b : Bool) (n : String) : Dat.isTy (.bl b) n = ("bool" == n || ("bool" == "bool" && n == "int")) := rfl
@[simp] theorem isTy_int (b : Int) (n : String) : Dat.isTy (.int b) n = ("int" == n || ("int" == "bool" && n == "int")) := rfl
@[simp] theorem isTy_str (b : Str) (n : String) : Dat.isTy (.str b) n = ("str" == n || ("str" == "bool" && n == "int")) := rfl
@[simp] theorem isTy_tup (b : List Dat) (n : String) : Dat.isTy (.tup b) n = ("tuple" == n || ("tuple" == "bool" && n == "int")) := rfl
@[simp] theorem isTy_lst (b : List Dat) (n : String) : Dat.isTy (.lst b) n = ("list" == n || ("list" == "bool" && n == "int")) := rfl
@[simp] theorem isTy_dic (a : List Key) (b : List Dat) (n : String) : Dat.isTy (.dic a b) n = ("dict" == n || ("dict" == "bool" && n == "int")) := rfl
theorem kit_names : ∀ m ∈ ["NoneType", "bool", "int", "str", "tuple", "list", "dict"], ∀ n ∈ ["int", "bool", "str", "list", "tuple", "dict"], kitB m n = some (isTyN m n) := by decide +kernel
theorem tyName_mem {d : Dat} {m : String} (e : d.tyName = some m) : m ∈ ["NoneType", "bool", "int", "str", "tuple", "list", "dict"] := by
  cases d <;> cases e <;> decide
theorem kit_isTy {d : Dat} {m n : String} (e : d.tyName = some m) (hn : n ∈ ["int", "bool", "str", "list", "tuple", "dict"]) : kitB m n = some (d.isTy n) := by
  unfold Dat.isTy
  rw [e]
  exact kit_names m (tyName_mem e) n hn
theorem rc_isTy {d : Dat} {n : String} (e : d.tyName.isSome = true) (hn : n ∈ ["int", "bool", "str", "list", "tuple", "dict"]) : RC K (rIsi K) [d, .ty n] (.bl (d.isTy n)) := by
  cases h : d.tyName with
  | none => rw [h] at e; cases e
  | some m => exact rc_isi h (kit_isTy h hn)
theorem rc_all {bs : List Bool} : RC K (rAll K) [.lst (bs.map Dat.bl)] (.bl (bs.all id)) := fun vs G H s r Q q => by
  cases r with
  | cons a c =>
    cases c
    cases a with
    | @lst a xs _ sq rl =>
      have e := rl.bls
      subst e
      exact ⟨a, bs, rfl, s.seq sq, q _ G H (.refl s) (.bl _)⟩
theorem rc_any {bs : List Bool} : RC K (rAny K) [.lst (bs.map Dat.bl)] (.bl (bs.any id)) := fun vs G H s r Q q => by
  cases r with
  | cons a c =>
    cases c
    cases a with
    | @lst a xs _ sq rl =>
      have e := rl.bls
      subst e
      exact ⟨a, bs, rfl, s.seq sq, q _ G H (.refl s) (.bl _)⟩
theorem rc_sum {ns : List Int} : RC K (rSum K) [.lst (ns.map Dat.int)] (.int ns.sum) := fun vs G H s r Q q => by
  cases r with
  | cons a c =>
    cases c
    cases a with
    | @lst a xs _ sq rl =>
      have e := rl.ints
      subst e
      exact ⟨a, ns, rfl, s.seq sq, q _ G H (.refl s) (.int _)⟩
theorem rcn_list {ds : List Dat} : RCN K (fun xs H Q => ∃ p ys, xs = [.ref p] ∧ (SqL K H p ys ∨ SqT K H p ys) ∧ ∀ l, H l = none → Q (.ref l) (upd H l (.lst ys))) [.lst ds] ds := fun vs G H s r Q q => by
  cases r with
  | cons a c =>
    cases c
    cases a with
    | @lst a xs _ sq rl => exact ⟨a, xs, rfl, .inl (s.seq sq), fun l hl => q l xs _ (same_upd hl) hl upd_same rl⟩
theorem rcn_listT {ds : List Dat} : RCN K (fun xs H Q => ∃ p ys, xs = [.ref p] ∧ (SqL K H p ys ∨ SqT K H p ys) ∧ ∀ l, H l = none → Q (.ref l) (upd H l (.lst ys))) [.tup ds] ds := fun vs G H s r Q q => by
  cases r with
  | cons a c =>
    cases c
    cases a with
    | @tup a xs _ sq rl => exact ⟨a, xs, rfl, .inr (sameT s sq), fun l hl => q l xs _ (same_upd hl) hl upd_same rl⟩
theorem rc_int_bl {b : Bool} : RC K (fun xs H Q => (∃ i, xs = [.int i] ∧ Q (.int i) H) ∨ ∃ k, xs = [.bl k] ∧ Q (.int (if k then 1 else 0)) H) [.bl b] (.int (if b then 1 else 0)) := fun vs G H s r Q q => by
  cases r with
  | cons a c =>
    cases c
    cases a
    exact .inr ⟨b, rfl, q _ G H (.refl s) (.int _)⟩
theorem rc_abs {i : Int} : RC K (fun xs H Q => ∃ i, xs = [.int i] ∧ Q (.int (if i < 0 then -i else i)) H) [.int i] (.int (if i < 0 then -i else i)) := fun vs G H s r Q q => by
  cases r with
  | cons a c =>
    cases c
    cases a
    exact ⟨i, rfl, q _ G H (.refl s) (.int _)⟩
theorem rc_lenT {ds : List Dat} : RC K (fun xs H Q => ∃ x n, xs = [x] ∧ LenV K x H n ∧ Q (.int n) H) [.tup ds] (.int ds.length) := fun vs G H e r Q q => by
  cases r with
  | cons a b =>
    cases b
    cases a with
    | tup s r =>
      refine ⟨_, ds.length, rfl, .inr ⟨_, sameT e s, ?_⟩, q _ G H (.refl e) (.int _)⟩
      exact r.len.symm
theorem rc_lenS {x : Str} (h : x.length ≤ 16777216) : RC K (fun xs H Q => ∃ x n, xs = [x] ∧ LenV K x H n ∧ Q (.int n) H) [.str x] (.int x.length) := fun vs G H e r Q q => by
  cases r with
  | cons a b =>
    cases b
    cases a
    exact ⟨_, x.length, rfl, ⟨size_ok h, rfl⟩, q _ G H (.refl e) (.int _)⟩
theorem rc_len {ds : List Dat} : RC K (fun xs H Q => ∃ x n, xs = [x] ∧ LenV K x H n ∧ Q (.int n) H) [.lst ds] (.int ds.length) := fun vs G H e r Q q => by
  cases r with
  | cons a b =>
    cases b
    cases a with
    | lst s r =>
      refine ⟨_, ds.length, rfl, .inl ⟨_, e.seq s, ?_⟩, q _ G H (.refl e) (.int _)⟩
      exact r.len.symm
end
end Pu
set_option Elab.async false
set_option linter.all false
set_option maxRecDepth 100000
set_option maxHeartbeats 4000000
set_option autoImplicit false
namespace Pu
open PySem PySem.Spec PyProof.Rows L2
/-! ### one judgement for both: m tells whether the datum stands -/
inductive EvM (K : PySem.W.Frag) (te : TE) (ε : List Sl) (d : Dat) : Bool → Prop
  | std (h : EvD K te ε d) : EvM K te ε d true
  | now (h : EvH K te ε d) : EvM K te ε d false
inductive EvMs (K : PySem.W.Frag) (ta : TA) (ε : List Sl) (ds : List Dat) : Bool → Prop
  | std (h : EvA K ta ε ds) : EvMs K ta ε ds true
  | now (h : EvAH K ta ε ds) : EvMs K ta ε ds false
def OpRes (K : PySem.W.Frag) (r : R2) (x y d : Dat) : Prop := RD K r x y d ∨ ∃ zs, d = .lst zs ∧ RDN K r x y zs
def CbRes (K : PySem.W.Frag) (r : List V → Hp → VK → Prop) (ds : List Dat) (d : Dat) : Prop := RC K r ds d ∨ ∃ zs, d = .lst zs ∧ RCN K r ds zs
section
variable {K : PySem.W.Frag} {ε : List Sl} {te ta tb tx : TE} {tu tw : TA} {t u : TT} {x y z d : Dat} {ds es : List Dat} {m n : Bool}
theorem EvM.toH (h : EvM K te ε d m) : EvH K te ε d := by
  cases h with
  | std h => exact EvD.toH h
  | now h => exact h
theorem EvMs.toH (h : EvMs K tu ε ds m) : EvAH K tu ε ds := by
  cases h with
  | std h => exact EvA.toH h
  | now h => exact h
theorem EvM.toD (h : EvM K te ε d m) (e : m = true) : EvD K te ε d := by
  cases h with
  | std h => exact h
  | now h => cases e
theorem EvMs.toA (h : EvMs K tu ε ds m) (e : m = true) : EvA K tu ε ds := by
  cases h with
  | std h => exact h
  | now h => cases e
theorem EvH.toM (h : EvH K te ε d) : EvM K te ε d d.flat := by
  cases e : d.flat with
  | true => exact .std (h.toD e)
  | false => exact .now h
theorem EvM.flat (h : EvM K te ε d m) : EvM K te ε d (m || d.flat) := by
  cases h with
  | std h => exact .std h
  | now h =>
    rw [Bool.false_or]
    exact EvH.toM h
/-- either it stands, or as it is now -/
theorem EvM.either (h1 : m = true → EvD K te ε d) (h2 : EvH K te ε d) : EvM K te ε d (m || d.flat) := by
  cases m with
  | true => exact .std (h1 rfl)
  | false =>
    rw [Bool.false_or]
    exact EvH.toM h2
theorem EvN.toM (h : EvN K te ε ds) : EvM K te ε (.lst ds) true := .std h.toD
theorem evm_int {i : Int} : EvM K (tC (.int i)) ε (.int i) true := .std evd_int
theorem evm_str {i : Str} : EvM K (tC (.str i)) ε (.str i) true := .std evd_str
theorem evm_bl {i : Bool} : EvM K (tC (.bl i)) ε (.bl i) true := .std evd_bl
theorem evm_non : EvM K (tC .non) ε .non true := .std evd_non
theorem evm_ty {n : String} : EvM K (tC (.ty n)) ε (.ty n) true := .std (evd_c fun _ => .ty n)
theorem evm_cls {C : Addr} : EvM K (tC (.ref C)) ε (.cls C) true := .std (evd_c fun _ => .cls C)
theorem evm_var {i : Nat} (h : ε[i]? = some (.dat d)) : EvM K (tVar i) ε d true := .std (evd_var h)
theorem evm_own {i : Nat} (h : ε[i]? = some (.own ds)) : EvM K (tVar i) ε (.lst ds) false := .now (evh_own h)
theorem evm_ownD {i : Nat} {ks : List Key} (h : ε[i]? = some (.ownD ks ds)) : EvM K (tVar i) ε (.dic ks ds) false := .now (evh_ownD h)
theorem evm_op {r : R2} (ha : EvM K ta ε x m) (hb : EvM K tb ε y n) (hr : OpRes K r x y z) : EvM K (tOp r ta tb) ε z (m && n || z.flat) := by
  have h1 : (m && n) = true → m = true ∧ n = true := fun e => by simpa using e
  rcases hr with hr | ⟨zs, e, hr⟩
  · exact EvM.either (fun e => evd_op (ha.toD (h1 e).1) (hb.toD (h1 e).2) hr) (evh_op ha.toH hb.toH hr)
  · subst e
    refine EvM.either (fun e => EvN.toD (evn_op (ha.toD (h1 e).1) (hb.toD (h1 e).2) hr)) ?_
    intro G0 H0 σ G H o Q q
    exact ha.toH G0 H0 σ G H o _ fun v G1 H1 o1 u1 r1 => hb.toH G0 H0 σ G1 H1 o1 _ fun w G2 H2 o2 u2 r2 => hr v w H2 H2 (.refl _) (r1.up u2.h) r2 Q fun p xs H3 s3 hp hp3 r3 =>
      have u4 : Up G2 H2 G2 H3 := .wide o2.up.le s3
      q _ G2 H3 (o2.step u4) ((u1.trans u2).trans u4) (.lst (.inl (.inl hp3)) (r3.up s3))
theorem evm_un {r : V → Hp → VK → Prop} (ha : EvM K ta ε x m) (hr : RC K (fun vs H Q => ∃ v, vs = [v] ∧ r v H Q) [x] z) : EvM K (tUn r ta) ε z (m || z.flat) := by
  refine EvM.either (fun e => evd_un (ha.toD e) hr) ?_
  intro G0 H0 σ G H o Q q
  refine ha.toH G0 H0 σ G H o _ fun v G1 H1 o1 u1 r1 => ?_
  obtain ⟨v', e, h⟩ := hr [v] H1 H1 (.refl _) (.one r1) Q fun v3 G3 H3 u3 r3 =>
    have u4 : Up G1 H1 G1 H3 := .wide o1.up.le u3.h
    q v3 G1 H3 (o1.step u4) (u1.trans u4) (r3.up u3.le)
  cases e
  exact h
theorem evms_nil : EvMs K tNil ε [] true := .std eva_nil
theorem evms_cons (h : EvM K te ε d m) (hr : EvMs K tu ε ds n) : EvMs K (tCons te tu) ε (d :: ds) (m && n) := by
  cases e : (m && n) with
  | true =>
    have h1 : m = true ∧ n = true := by simpa using e
    exact .std (eva_cons (h.toD h1.1) (hr.toA h1.2))
  | false => exact .now (evah_cons h.toH hr.toH)
theorem evm_tup (h : EvMs K tu ε ds m) (hl : ds.length ≤ 16777216) : EvM K (tTup tu) ε (.tup ds) m := by
  cases h with
  | std h => exact .std (evd_tup h hl)
  | now h => exact .now (evh_tup h hl)
theorem evm_lst (h : EvMs K tu ε ds m) (hl : ds.length ≤ 16777216) : EvM K (tLst tu) ε (.lst ds) m := by
  cases h with
  | std h => exact .std (EvN.toD (evn_lst h hl))
  | now h => exact .now (evh_lst h hl)
theorem evm_cb {r : List V → Hp → VK → Prop} (h : EvMs K tu ε ds m) (hr : CbRes K r ds z) : EvM K (tCB r tu) ε z (m || z.flat) := by
  rcases hr with hr | ⟨zs, e, hr⟩
  · exact EvM.either (fun e => evd_cb (h.toA e) hr) (evh_cb h.toH hr)
  · subst e
    refine EvM.either (fun e => EvN.toD (evn_cb (h.toA e) hr)) ?_
    intro G0 H0 σ G H o Q q
    exact h.toH G0 H0 σ G H o _ fun vs G1 H1 o1 u1 r1 => hr vs H1 H1 (.refl _) r1 Q fun p xs H3 s3 hp hp3 r3 =>
      have u4 : Up G1 H1 G1 H3 := .wide o1.up.le s3
      q _ G1 H3 (o1.step u4) (u1.trans u4) (.lst (.inl (.inl hp3)) (r3.up s3))
/-- what a call's result is as a datum -/
inductive CallIs (P : List Dat → Res → Prop) (ds : List Dat) : Dat → Prop
  | dat {d : Dat} (h : P ds (.dat d)) : CallIs P ds d
  | new {zs : List Dat} (h : P ds (.new zs)) : CallIs P ds (.lst zs)
theorem evm_call {P : List Dat → Res → Prop} {E : XK} (h : EvMs K tu ε ds m) (hP : CallIs P ds z) : EvM K (tCall (spF K P) [] E tu) ε z (m || z.flat) := by
  cases hP with
  | dat hP => exact EvM.either (fun e => evd_call' (h.toA e) hP) (evh_call' h.toH hP)
  | @new zs hP =>
    refine EvM.either (fun e => EvN.toD (evn_call' (h.toA e) hP)) ?_
    intro G0 H0 σ G H o Q q
    refine h.toH G0 H0 σ G H o _ fun vs G1 H1 o1 u1 r1 => ⟨H1, ds, .new zs, .refl _, by rw [List.append_nil]; exact r1, hP, fun v G' H' hr => ?_⟩
    obtain ⟨p, xs, e, u2, hp, hg, h0, r⟩ := hr
    subst e
    have u4 : Up G1 H1 G1 H' := .wide o1.up.le u2.h
    exact q _ G1 H' (o1.step u4) (u1.trans u4) (.lst (.inl (.inl hp)) (r.up u2.le))
theorem evm_and {a b : Bool} (h1 : EvM K ta ε (.bl a) m) (h2 : a = true → EvM K tb ε (.bl b) n) : EvM K (tAndV ta tb) ε (.bl (a && b)) true := EvH.toM (d := .bl (a && b)) (evh_and h1.toH fun e => (h2 e).toH)
theorem evm_or {a b : Bool} (h1 : EvM K ta ε (.bl a) m) (h2 : a = false → EvM K tb ε (.bl b) n) : EvM K (tOrV ta tb) ε (.bl (a || b)) true := EvH.toM (d := .bl (a || b)) (evh_or h1.toH fun e => (h2 e).toH)
theorem evm_not {a : Bool} (h1 : EvM K ta ε (.bl a) m) : EvM K (tNotV ta) ε (.bl (!a)) true := EvH.toM (d := .bl (!a)) (evh_not h1.toH)
theorem evm_if {b : Bool} (h : EvT K t ε b) (h1 : b = true → EvD K ta ε x) (h2 : b = false → EvD K tb ε y) : EvM K (tIf t ta tb) ε (if b = true then x else y) true := .std (evd_if h h1 h2)
theorem evt_testM {b : Bool} (h : EvM K te ε (.bl b) m) : EvT K (tTest te) ε b := evt_test h.toH
theorem evt_BM {b : Bool} (h : EvM K te ε (.bl b) m) : EvT K (tB te) ε b := evt_B h.toH
theorem evo_someM {i : Int} (h : EvM K te ε (.int i) m) : EvO K (tPart te) ε (some i) := evo_some h.toH
/-- the same datum otherwise said -/
theorem evm_is {a b : Dat} (h : EvM K te ε a m) (e : a = b) : EvM K te ε b m := e ▸ h
theorem evms_is {a b : List Dat} (h : EvMs K tu ε a m) (e : a = b) : EvMs K tu ε b m := e ▸ h
theorem evn_callM {P : List Dat → Res → Prop} {E : XK} {zs : List Dat} (h : EvMs K tu ε ds m) (e : m = true) (hP : P ds (.new zs)) : EvN K (tCall (spF K P) [] E tu) ε zs := evn_call' (h.toA e) hP
theorem evn_lstM (h : EvMs K tu ε ds m) (e : m = true) (hl : ds.length ≤ 16777216) : EvN K (tLst tu) ε ds := evn_lst (h.toA e) hl
theorem evn_cbM {r : List V → Hp → VK → Prop} {zs : List Dat} (h : EvMs K tu ε ds m) (e : m = true) (hr : RCN K r ds zs) : EvN K (tCB r tu) ε zs := evn_cb (h.toA e) hr
theorem evn_slM {tl th : TO} {lo hi : Option Int} (h : EvM K te ε (.lst ds) m) (e : m = true) (h1 : EvO K tl ε lo) (h2 : EvO K th ε hi) : EvN K (tSl (rSlL K) te tl th) ε (cutD ds lo hi) := evn_slL (h.toD e) h1 h2
theorem evn_opM {r : R2} {zs : List Dat} (ha : EvM K ta ε x m) (hb : EvM K tb ε y n) (e : (m && n) = true) (hr : RDN K r x y zs) : EvN K (tOp r ta tb) ε zs :=
  have h1 : m = true ∧ n = true := by simpa using e
  evn_op (ha.toD h1.1) (hb.toD h1.2) hr
/-! statements by it -/
variable {s : TS} {v : TS} {Φ : Out → Prop}
theorem ex_setM {i : Nat} (h : EvM K te ε d m) (e : m = true) (k : ExS K s (ε.set i (.dat d)) Φ) : ExS K (tSeq (tAsg te (gName i)) s) ε Φ := ex_set (h.toD e) k
theorem ex_retM (h : EvM K te ε d m) (e : m = true) (k : Φ (.ret (.dat d))) : ExS K (tRet te) ε Φ := ex_ret (h.toD e) k
theorem ex_exprM (h : EvM K te ε d m) (k : ExS K s ε Φ) : ExS K (tSeq (tDrop te) s) ε Φ := ex_expr h.toH k
theorem ex_appM {i : Nat} (h : ε[i]? = some (.own ds)) (he : EvM K te ε d m) (e : m = true) (hl : ds.length < 16777216) (k : ExS K s (ε.set i (.own (ds ++ [d]))) Φ) :
    ExS K (tSeq (tDrop (tBM K "list" rAppend (tVar i) (tCons te tNil))) s) ε Φ := ex_app h (he.toD e) hl k
theorem ex_augM {i : Nat} {f : Int → Int → Int} {a b : Int} (h : ε[i]? = some (.dat (.int a))) (he : EvM K te ε (.int b) m) (k : ExS K s (ε.set i (.dat (.int (f a b)))) Φ) : ExS K (tSeq (tAug i te (ipI f)) s) ε Φ := ex_aug h he.toH k
theorem evw_rng1M {n : Int} {m : Bool} (h : EvMs K tu ε [.int n] m) (h1 : -(2 ^ 62) ≤ n ∧ n < 2 ^ 62) : EvW K (iRng1 tu) ε (fromto 0 n.toNat) := evw_rng1 h.toH h1
theorem evw_rng2M {lo n : Int} {m : Bool} (h : EvMs K tu ε [.int lo, .int n] m) (h1 : -(2 ^ 62) ≤ lo ∧ lo < 2 ^ 62 ∧ -(2 ^ 62) ≤ n ∧ n < 2 ^ 62) : EvW K (iRng2 tu) ε (fromto lo (n - lo).toNat) := evw_rng2 h.toH h1
theorem evw_listM (h : EvM K te ε (.lst ds) m) (e : m = true) : EvW K (iList K te) ε ds := evw_list (h.toD e)
theorem evw_tupM (h : EvM K te ε (.tup ds) m) (e : m = true) : EvW K (iTup K te) ε ds := evw_tup (h.toD e)
theorem evw_strM {x : Str} (h : EvM K te ε (.str x) m) : EvW K (iStr te) ε (signs x) := evw_str h.toH
end
end Pu
set_option Elab.async false
set_option linter.all false
set_option maxRecDepth 100000
set_option maxHeartbeats 4000000
set_option autoImplicit false
/-! the rules with the written part said (so that a comprehension's block takes them) -/
namespace Pu
open PySem PySem.Spec PyProof.Rows L2
section
variable {X : Cx} {K : PySem.W.Frag} (h : X.K = K)
include h
theorem op_addK : OpR X (binaryOp .Add) (rAddU K) := h ▸ op_addU
theorem op_eqK (hu : X.A.units + 64 < cLine) : OpR X (compareOp .Eq) (rEqU K) := h ▸ op_eqU hu
theorem op_neK (hu : X.A.units + 64 < cLine) : OpR X (compareOp .NotEq) (rNeU K) := h ▸ op_neU hu
theorem op_inK : OpR X (compareOp .In) (rIn K false) := h ▸ op_in_seq
theorem op_ninK : OpR X (compareOp .NotIn) (rIn K true) := h ▸ op_notIn_seq
theorem ix_seqK : IxR X (rIx K) := h ▸ ix_seq
theorem sl_listK : SlR X (rSlL K) := h ▸ sl_list
theorem sl_tupK : SlR X (rSlA K) := h ▸ sl_tupA
def rLenU (K : PySem.W.Frag) : List V → Hp → VK → Prop := fun xs H Q => ∃ x n, xs = [x] ∧ LenV K x H n ∧ Q (.int n) H
def rListOf (K : PySem.W.Frag) : List V → Hp → VK → Prop := fun xs H Q => ∃ p ys, xs = [.ref p] ∧ (SqL K H p ys ∨ SqT K H p ys) ∧ ∀ l, H l = none → Q (.ref l) (upd H l (.lst ys))
theorem call_lenK : CallR X (.builtin "len") (rLenU K) := h ▸ call_len
theorem call_listK : CallR X (.type "list") (rListOf K) := h ▸ call_list_of
theorem call_isiK1 : CallR X (.builtin "isinstance") (rIsi K) := h ▸ call_isi
theorem cr_sumK (hc : X.calm = true) : CallR X (.builtin "sum") (rSum K) := h ▸ cr_sum hc
theorem cr_allK (hc : X.calm = true) : CallR X (.builtin "all") (rAll K) := h ▸ cr_all hc
theorem cr_anyK (hc : X.calm = true) : CallR X (.builtin "any") (rAny K) := h ▸ cr_any hc
variable {tg e : Expr} {te : TE} {ta : TA}
theorem pi_listK (he : PE X e te) : PI X tg e (iList K te) := h ▸ pi_list he
theorem pi_tupK (he : PE X e te) : PI X tg e (iTup K te) := h ▸ pi_tup he
theorem pe_fldK {f : String} {pos : Pos} (he : PE X e te) (hb : attributeBase e f X.env (eval e X.env) = eval e X.env) : PE X (.Attribute e f pos) (tFld K te f) := h ▸ pe_fld he hb
end
section
variable {K : PySem.W.Frag}
theorem rcn_listK {ds : List Dat} : RCN K (rListOf K) [.lst ds] ds := rcn_list
theorem rcn_listTK {ds : List Dat} : RCN K (rListOf K) [.tup ds] ds := rcn_listT
theorem rc_lenK {ds : List Dat} : RC K (rLenU K) [.lst ds] (.int ds.length) := rc_len
theorem rc_lenTK {ds : List Dat} : RC K (rLenU K) [.tup ds] (.int ds.length) := rc_lenT
theorem rc_lenSK {x : Str} (h : x.length ≤ 16777216) : RC K (rLenU K) [.str x] (.int x.length) := rc_lenS h
end
end Pu
set_option Elab.async false
set_option linter.all false
set_option maxRecDepth 100000
set_option maxHeartbeats 4000000
set_option autoImplicit false
/-! set(a list of ints), sorted of it: the library's proof for a tuple, turned to a list -/
namespace L2
open PySem PySem.Spec PyProof.Rows
def set0 (w : World) : Obj := { cls := .type "set", dict := none, data := .set #[] 0 (.fresh 0 0 (!w.params.followText "set-order")) }
section
variable {P : Program} {w : World} {A : Around} {E : Value → Shared → Prop} {s : Shared}
set_option maxHeartbeats 3200000 in
theorem set_of_ints {l : Addr} {items : Array Value} (ns : List Int) {Q : Value → Shared → Prop} (hh : A.handled = none) (hl : s.heap.IsList l items) (hit : IntsAre items.toList ns) (hb : ns.length + 1 < scanBound)
    (h : ∀ (h' : Heap) (tk c : Nat), SetR w h' s.heap.objs.size (fun j => decide (j ∈ ns)) c → c ≤ ns.length → (∀ b o, s.heap.get? b = some o → h'.get? b = some o) → Q (.ref s.heap.objs.size) { s with heap := h', toks := tk }) :
    wpAny (model P w) A (call (.type "set") [.ref l]) Q E s := by
  have hisz : items.size = ns.length := by
    have q := IntsAre.length hit
    rw [Array.length_toList] at q
    exact q
  obtain ⟨c, tl, hmro⟩ := F.called_set.mro
  have hmade := F.called_set.made
  have hsub := F.called_set.sub
  refine wpAny_call (codeAny_of_tree ?_)
  show wpAny _ _ (callAny (.type "set") _) _ _ _
  refine wpAny_pure ⟨Code.quiet_builtin _ (by decide +kernel), codeAny_builtin F.entry_type_call ?_⟩
  rw [Around.under_plain (weight_type_call_type "set" [.ref l] []) rfl]
  have h1 := F.called_set.notType
  have h2 := F.called_set.canCreate
  have hct := F.typeCall_set_1 (.ref l)
  repeat (any_goals (first | assumption | wp_step))

  refine codeAny_mono (code_set_led1 (.ref l) (E := E) (Q₁ := fun obj s₁ => obj = .ref s.heap.objs.size ∧ s₁ = { s with heap := s.heap.push (set0 w) }) ⟨rfl, rfl⟩) fun r s₁ hr => ?_
  cases r with
  | error e => exact hr
  | ok fl =>
    cases fl with
    | ret obj =>
      obtain ⟨rfl, rfl⟩ := hr
      have hS : (s.heap.push (set0 w)).get? s.heap.objs.size = some (set0 w) := Heap.get?_push_size _ rfl
      have hT : Shared.TypeIs { s with heap := s.heap.push (set0 w) } (.ref s.heap.objs.size) "set" := ⟨_, hS, rfl⟩
      have hli := F.called_set.init.lookup
      have hbi := F.called_set.init.bind (.ref s.heap.objs.size)
      repeat (any_goals (first | assumption | wp_step))

      refine codeAny_mono (codeAny_call_builtin (R := wants (fun r s₂ => r = .none ∧ ∃ h' tk c, s₂ = { s with heap := h', toks := tk } ∧ SetR w h' s.heap.objs.size (fun j => decide (j ∈ ns)) c ∧ c ≤ ns.length ∧
          (∀ b o, s.heap.get? b = some o → h'.get? b = some o)) E) F.called_set.init.plain F.entry_set_init (check_set_init_1 hT ?_)) fun r₂ s₂ hr₂ => ?_
      · obtain ⟨ol, hol, hcl, nl, hdl⟩ := hl
        obtain ⟨ocls, odict, odata, oslots⟩ := ol
        simp only at hcl hdl
        subst hcl; subst hdl
        have hol' : (s.heap.push (set0 w)).get? l = some { cls := .type "list", dict := odict, data := .seq items nl, slots := oslots } := Heap.get?_push_of_some _ hol
        have hsls := PySem.F.sub_list_set
        have hslf := PySem.F.sub_list_frozenset
        have hne : (Value.type "list" == Value.type "dict") = false := by decide
        have hl1 : (s.heap.push (set0 w)).IsList l items := ⟨_, hol', rfl, nl, rfl⟩
        unfold Builtin.«set.__init__» noKeywords Builtin.Frozenset.updateFrom
        generalize hPI : pyIter = PI
        wp_walk
        subst hPI

        refine wpAny_pyIter_list hl1 ?_
        refine wpAny_bind (wpAny_runValue ?_)
        have hlS : l < s.heap.objs.size := Heap.lt_size hol
        have hh3 : A.in1.in1.in1.handled = none := by simp [hh]
        have hz1 : (s.heap.push (set0 w)).objs.size = s.heap.objs.size + 1 := Heap.size_push ..
        have hneI : l ≠ (s.heap.push (set0 w)).objs.size := by
          rw [Heap.size_push]; exact Nat.ne_of_lt (Nat.lt_succ_of_lt hlS)
        have hSf : s.heap.objs.size ∉ [(s.heap.push (set0 w)).objs.size, l] := by
          rw [Heap.size_push]; simp only [List.mem_cons, List.mem_singleton, List.not_mem_nil, or_false, not_or]
          exact ⟨Nat.ne_of_lt (Nat.lt_succ_self _), Nat.ne_of_gt hlS⟩
        have hval : ∀ (i : Nat) (v : Value), items[i]? = some v → ∃ k t, ns[i]? = some k ∧ v = .int k t := fun i v hv => by
          have hi : i < ns.length := by rw [← hisz]; exact (Array.getElem?_eq_some_iff.mp hv).1
          obtain ⟨t, e⟩ := PyProof.Rows.IntsAre.int_at hit i v (by rw [Array.getElem?_toList]; exact hv)
          refine ⟨ns[i], t, List.getElem?_eq_getElem hi, ?_⟩
          rw [e, List.getD_eq_getElem?_getD, List.getElem?_eq_getElem hi] <;> rfl
        refine set_update_ints ((Walks.list hh3 _ l hneI items).toS) s.heap.objs.size
          hSf ns hisz hb hval (items.size - 0) 0 _ (by omega) (Nat.zero_le _)
          ⟨⟨_, Heap.get?_push_size _ rfl, rfl, rfl⟩, (hl1.push _)⟩ ?hS0 ?hR
        case hS0 =>
          have hget : ((s.heap.push (set0 w)).push { cls := .type "list_iterator", data := .fields #[.ref l, .int 0 0] }).get? s.heap.objs.size
              = some (set0 w) := Heap.get?_push_of_some _ hS
          exact ⟨0, Nat.le_refl 0, setR_new_at hget⟩
        case hR =>
          intro s' c' hm hc' hS'
          obtain ⟨h', g2, d', tk', os'⟩ := s'
          have eg : g2 = s.gens := hm.gens
          have ed : d' = s.drawn := hm.drawn
          have eo : os' = s.os := hm.os
          subst eg; subst ed; subst eo
          show wpAny _ _ _ _ _ _
          refine wpAny_pure ?_
          show wpAny _ _ (ret Value.none) _ _ _
          rw [hisz] at hc'
          refine wpAny_pure ⟨rfl, h', tk', c', rfl, hS', hc', fun b o e => ?_⟩
          have hb0 : b < s.heap.objs.size := Heap.lt_size e
          have hb1 : b ≠ s.heap.objs.size := Nat.ne_of_lt hb0
          have hb2 : b ≠ (s.heap.push (set0 w)).objs.size := by
            rw [Heap.size_push]; exact Nat.ne_of_lt (Nat.lt_succ_of_lt hb0)
          exact hm.heap b o (by simp only [List.mem_cons, List.mem_singleton, List.not_mem_nil, or_false, not_or]; exact ⟨hb1, hb2⟩) (Heap.get?_push_of_some _ (Heap.get?_push_of_some _ e))

      · cases r₂ with
        | error e => exact hr₂
        | ok fl₂ =>
          cases fl₂ with
          | ret r =>
            obtain ⟨rfl, h', tk, c', rfl, hS', hc', hk'⟩ := hr₂
            repeat (any_goals (first | assumption | wp_step))
            exact h _ _ _ hS' hc' hk'
          | _ => exact hr₂.elim
    | _ => exact hr.elim
end
end L2
set_option Elab.async false
set_option linter.all false
set_option maxRecDepth 100000
set_option maxHeartbeats 4000000
set_option autoImplicit false
namespace Pu
open PySem PySem.Spec PyProof.Rows L2
def rSetL (K : PySem.W.Frag) (w : World) : List V → Hp → VK → Prop := fun vs H Q => ∃ (a : Addr) (ns : List Int), vs = [V.ref a] ∧ SqL K H a (ns.map V.int) ∧ ns.length < 1000 ∧ ∀ (p : Addr) (c : Nat), H p = none → c ≤ ns.length → Q (.ref p) (upd H p (SetO w p (fun j => decide (j ∈ ns)) c))
theorem cr_setL {X : Cx} (hc : X.calm = true) : CallR X (.type "set") (rSetL X.K X.w) := by
  intro pins s σ H vs us Q I r h
  obtain ⟨a, ns, rfl, hs, hl, q⟩ := h
  rw [Vals.ref1 r]
  obtain ⟨its, rv, pl, hz⟩ := I.list hs
  refine set_of_ints (P := X.prog) (w := X.w) ns (I.ok.hd hc) pl.isList (by simpa using intsAre_of rv) (by unfold scanBound; omega) fun h' tk c R hcn k => ?_
  exact ⟨.ref s.heap.objs.size, _, I.laid (t' := tk) k (Nat.le_refl _) (setO_new R), rfl, q _ c (I.hok.fresh (Nat.le_refl _)) hcn⟩
/-- a rising list of a list's numbers, each once -/
def insI (x : Int) : List Int → List Int
  | [] => [x]
  | y :: ys => if x < y then x :: y :: ys else if x = y then y :: ys else y :: insI x ys
def srt (ns : List Int) : List Int := ns.foldr insI []
theorem insI_mem (x k : Int) : ∀ l : List Int, k ∈ insI x l ↔ k = x ∨ k ∈ l
  | [] => by simp [insI]
  | y :: ys => by
    unfold insI
    split
    · simp
    · split
      · rename_i e
        subst e
        simp
      · simp only [List.mem_cons, insI_mem x k ys]
        constructor <;> (intro h; rcases h with h | h | h <;> simp [h])
theorem insI_lt (x : Int) : ∀ l : List Int, l.Pairwise (· < ·) → (insI x l).Pairwise (· < ·)
  | [], _ => by simp [insI]
  | y :: ys, h => by
    have h1 := List.pairwise_cons.mp h
    unfold insI
    split
    · rename_i e
      refine List.pairwise_cons.mpr ⟨fun z hz => ?_, h⟩
      rcases List.mem_cons.mp hz with rfl | hz
      · exact e
      · have := h1.1 z hz
        omega
    · split
      · exact h
      · refine List.pairwise_cons.mpr ⟨fun z hz => ?_, insI_lt x ys h1.2⟩
        rcases (insI_mem x z ys).mp hz with rfl | hz
        · omega
        · exact h1.1 z hz
theorem srt_mem {k : Int} : ∀ {ns : List Int}, k ∈ srt ns ↔ k ∈ ns
  | [] => Iff.rfl
  | n :: ns => by
    show k ∈ insI n (srt ns) ↔ _
    rw [insI_mem, srt_mem, List.mem_cons]
theorem srt_lt : ∀ ns : List Int, (srt ns).Pairwise (· < ·)
  | [] => List.Pairwise.nil
  | n :: ns => insI_lt n _ (srt_lt ns)
theorem same_rising : ∀ {l m : List Int}, l.Pairwise (· < ·) → m.Pairwise (· < ·) → (∀ k, k ∈ l ↔ k ∈ m) → l = m
  | [], [], _, _, _ => rfl
  | [], y :: ys, _, _, h => absurd ((h y).mpr List.mem_cons_self) (by simp)
  | x :: xs, [], _, _, h => absurd ((h x).mp List.mem_cons_self) (by simp)
  | x :: xs, y :: ys, a, b, h => by
    have a1 := List.pairwise_cons.mp a
    have b1 := List.pairwise_cons.mp b
    have e : x = y := by
      rcases List.mem_cons.mp ((h x).mp List.mem_cons_self) with e | e
      · exact e
      · rcases List.mem_cons.mp ((h y).mpr List.mem_cons_self) with e2 | e2
        · exact e2.symm
        · have := b1.1 x e
          have := a1.1 y e2
          omega
    subst e
    have := same_rising a1.2 b1.2 fun k => ⟨fun hk => by
      rcases List.mem_cons.mp ((h k).mp (List.mem_cons_of_mem _ hk)) with e | e
      · have := a1.1 k hk
        omega
      · exact e, fun hk => by
      rcases List.mem_cons.mp ((h k).mpr (List.mem_cons_of_mem _ hk)) with e | e
      · have := b1.1 k hk
        omega
      · exact e⟩
    rw [this]
section
variable {K : PySem.W.Frag} {ε : List Sl} {tu : TA} {w : World}
/-- sorted(set(xs)) -/
theorem evn_sortedSet {ns : List Int} (h : EvAH K tu ε [.lst (ns.map Dat.int)]) (hl : ns.length < 64) : EvN K (tCB (rSortedSet w) (tCons (tCB (rSetL K w) tu) tNil)) ε ((srt ns).map Dat.int) := fun G0 H0 σ G H o Q q =>
  h G0 H0 σ G H o _ fun vs G1 H1 o1 u1 r1 => by
    cases r1 with
    | cons a b =>
      cases b
      cases a with
      | @lst a xs _ s r =>
        have e := r.ints
        subst e
        refine ⟨a, ns, rfl, s, by omega, fun p c hp hc => ⟨p, _, c, rfl, upd_same, by omega, fun ns' p' lt mem len hp' => ?_⟩⟩
        have e : ns' = srt ns := same_rising lt (srt_lt ns) fun k => by rw [mem k, srt_mem, decide_eq_true_eq]
        subst e
        have s1 : Same H1 (upd H1 p (SetO w p (fun j => decide (j ∈ ns)) c)) := same_upd hp
        have s2 := s1.trans (same_upd (o := .lst ((srt ns).map V.int)) hp')
        have u2 : Up G1 H1 G1 _ := .wide o1.up.le s2
        exact q _ _ G1 _ (o1.step u2) (u1.trans u2) (u1.h.free (s1.free hp')) upd_same (o1.up.le.free (s1.free hp')) RL.ofInts
end
end Pu
set_option Elab.async false
set_option linter.all false
set_option maxRecDepth 100000
set_option maxHeartbeats 4000000
set_option autoImplicit false
/-! sets of numbers as bits -/
namespace Pu
open PySem
/-- the set of a list's numbers -/
def bitsN (l : List Nat) : Nat := l.foldr (fun n acc => 2 ^ n ||| acc) 0
theorem bitsN_test (l : List Nat) (k : Nat) : (bitsN l).testBit k = decide (k ∈ l) := by
  induction l with
  | nil => simp [bitsN]
  | cons n r ih =>
    show (2 ^ n ||| bitsN r).testBit k = _
    rw [Nat.testBit_or, ih, Nat.testBit_two_pow]
    refine Bool.eq_iff_iff.mpr ?_
    simp only [Bool.or_eq_true, decide_eq_true_eq, List.mem_cons]
    exact ⟨fun h => h.imp Eq.symm id, fun h => h.imp Eq.symm id⟩
theorem bits_within {a b : Nat} : a &&& b = a ↔ ∀ k, a.testBit k = true → b.testBit k = true := by
  constructor
  · intro h k hk
    rw [← h, Nat.testBit_and, Bool.and_eq_true] at hk
    exact hk.2
  · intro h
    apply Nat.eq_of_testBit_eq
    intro k
    rw [Nat.testBit_and]
    cases e : a.testBit k with
    | false => rfl
    | true =>
      rw [h k e]
      rfl
theorem and_nn {x y : Nat} : Builtin.bitAnd (x : Int) (y : Int) = ((x &&& y : Nat) : Int) := by
  unfold Builtin.bitAnd
  simp
/-- a rising list's sum of powers is its set -/
def sumPow : List Nat → Nat
  | [] => 0
  | n :: r => 2 ^ n + sumPow r
theorem sumPow_mul : ∀ (l : List Nat) (n : Nat), (∀ k ∈ l, n < k) → ∃ q, sumPow l = 2 ^ (n + 1) * q
  | [], n, _ => ⟨0, rfl⟩
  | k :: r, n, h => by
    obtain ⟨q, e⟩ := sumPow_mul r n fun j hj => h j (List.mem_cons_of_mem _ hj)
    have hk := h k List.mem_cons_self
    refine ⟨2 ^ (k - (n + 1)) + q, ?_⟩
    show 2 ^ k + sumPow r = _
    rw [e, Nat.mul_add, ← Nat.pow_add]
    congr 2
    omega
theorem sumPow_bits : ∀ l : List Nat, l.Pairwise (· < ·) → sumPow l = bitsN l
  | [], _ => rfl
  | n :: r, h => by
    have h1 := List.pairwise_cons.mp h
    obtain ⟨q, e⟩ := sumPow_mul r n h1.1
    show 2 ^ n + sumPow r = 2 ^ n ||| bitsN r
    rw [← sumPow_bits r h1.2, e, Nat.add_comm, Nat.two_pow_add_eq_or_of_lt (Nat.pow_lt_pow_right (by decide) (Nat.lt_succ_self n)), Nat.or_comm]

section
open PySem.Spec PyProof.Rows L2
variable {K : PySem.W.Frag} {ε : List Sl} {ta tb : TE} {m n : Bool}
theorem evn_listRg {lo hi : Int} (ha : EvM K ta ε (.int lo) m) (hb : EvM K tb ε (.int hi) n) (h : RgOk lo hi) : EvN K (tLstRg (tRg2 ta tb)) ε (fromto lo (hi - lo).toNat) := fun G0 H0 σ G H o Q q =>
  ha.toH G0 H0 σ G H o _ fun v G1 H1 o1 u1 r1 => hb.toH G0 H0 σ G1 H1 o1 _ fun w G2 H2 o2 u2 r2 => by
    cases r1
    cases r2
    refine ⟨lo, hi, rfl, rfl, h, fun p hp => ?_⟩
    have u4 : Up G2 H2 G2 (upd H2 p (.lst (rgV lo hi))) := .own o2.up.le hp
    refine q p _ _ _ (o2.step u4) ((u1.trans u2).trans u4) ((u1.trans u2).h.free hp) upd_same (o2.up.le.free hp) ?_
    have e : fromto lo (hi - lo).toNat = ((List.range (hi - lo).toNat).map fun (i : Nat) => lo + (i : Int)).map Dat.int := by
      rw [List.map_map]
      rfl
    have e2 : rgV lo hi = ((List.range (hi - lo).toNat).map fun (i : Nat) => lo + (i : Int)).map V.int := by
      rw [List.map_map]
      rfl
    rw [e, e2]
    exact RL.ofInts
theorem evm_bits {i : Int} (ha : EvM K ta ε (.int i) m) : EvM K (tBits ta) ε (.int (Builtin.Int.intBits i : Nat)) true := EvH.toM (d := .int _) fun G0 H0 σ G H o Q q =>
  ha.toH G0 H0 σ G H o _ fun v G1 H1 o1 u1 r1 => by
    cases r1
    exact ⟨i, rfl, q _ G1 H1 o1 u1 (.int _)⟩
end
open PySem.Builtin in
theorem intBits_nat (B k : Nat) (h : B.testBit k = true) : k < Builtin.Int.intBits (B : Int) := by
  have h0 : B ≠ 0 := fun e => by
    subst e
    simp at h
  have h1 : ¬ B < 2 ^ k := fun q => by
    rw [Nat.testBit_lt_two_pow q] at h
    cases h
  have h2 : B < 2 ^ (B.log2 + 1) := Nat.lt_log2_self
  have e : Builtin.Int.intBits (B : Int) = B.log2 + 1 := by
    unfold Builtin.Int.intBits
    simp [h0]
  rw [e]
  apply Classical.byContradiction
  intro q
  have : 2 ^ (B.log2 + 1) ≤ 2 ^ k := Nat.pow_le_pow_right (by decide) (by omega)
  omega
theorem intBits_le (B n : Nat) (h : B < 2 ^ n) (hn : 0 < n) : Builtin.Int.intBits (B : Int) ≤ n := by
  unfold Builtin.Int.intBits
  split
  · omega
  · rename_i e
    have : B ≠ 0 := by simpa using e
    have h2 : B.log2 < n := (Nat.log2_lt this).mpr h
    simp
    omega
/-- is the bit there, as the program asks it -/
theorem holds_nat (B k : Nat) : (Builtin.bitAnd ((B : Int) / 2 ^ k) 1 == 1) = B.testBit k := by
  have e : (B : Int) / 2 ^ k = ((B / 2 ^ k : Nat) : Int) := by
    rw [Int.natCast_ediv, Int.natCast_pow]
    rfl
  rw [e, show (1 : Int) = ((1 : Nat) : Int) from rfl, and_nn, Nat.and_one_is_mod]
  unfold Nat.testBit
  rw [Nat.shiftRight_eq_div_pow, Nat.one_and_eq_mod_two]
  refine Bool.eq_iff_iff.mpr ?_
  rw [beq_iff_eq, Int.ofNat_inj, bne_iff_ne]
  omega
/-- the bits of a list of numbers, in no order -/
def bitsZ (ns : List Int) : Nat := bitsN (ns.map Int.toNat)
theorem bitsZ_test {ns : List Int} (h : ∀ n ∈ ns, 0 ≤ n) (k : Nat) : (bitsZ ns).testBit k = decide ((k : Int) ∈ ns) := by
  unfold bitsZ
  rw [bitsN_test]
  refine Bool.eq_iff_iff.mpr ?_
  simp only [decide_eq_true_eq, List.mem_map]
  constructor
  · rintro ⟨n, hn, rfl⟩
    rw [Int.toNat_of_nonneg (h n hn)]
    exact hn
  · intro hk
    exact ⟨k, hk, by simp⟩
theorem bitsZ_ext {ns ms : List Int} (h : ∀ n ∈ ns, 0 ≤ n) (h2 : ∀ n ∈ ms, 0 ≤ n) (e : ∀ k, k ∈ ns ↔ k ∈ ms) : bitsZ ns = bitsZ ms := by
  apply Nat.eq_of_testBit_eq
  intro k
  rw [bitsZ_test h, bitsZ_test h2]
  exact Bool.eq_iff_iff.mpr (by simp [e])
theorem bitsZ_lt {ns : List Int} (h : ∀ n ∈ ns, 0 ≤ n) {b : Nat} (hb : ∀ n ∈ ns, n < (b : Int)) : bitsZ ns < 2 ^ b := by
  apply Nat.lt_pow_two_of_testBit
  intro k hk
  rw [bitsZ_test h]
  refine decide_eq_false fun q => ?_
  have := hb _ q
  omega
theorem told_is {ns : List Int} (h : ∀ n ∈ ns, 0 ≤ n) : ((List.range (Builtin.Int.intBits (bitsZ ns : Nat))).filter (bitsZ ns).testBit).map (fun (k : Nat) => (k : Int)) = srt ns := by
  refine same_rising ?_ (srt_lt ns) fun k => ?_
  · rw [List.pairwise_map]
    exact (List.Pairwise.filter _ List.pairwise_lt_range).imp fun {a b} q => by omega
  · rw [srt_mem]
    simp only [List.mem_map, List.mem_filter, List.mem_range]
    constructor
    · rintro ⟨n, ⟨_, hn⟩, rfl⟩
      rw [bitsZ_test h, decide_eq_true_eq] at hn
      exact hn
    · intro hk
      obtain ⟨n, rfl⟩ := Int.eq_ofNat_of_zero_le (h k hk)
      have t : (bitsZ ns).testBit n = true := by
        rw [bitsZ_test h]
        exact decide_eq_true hk
      exact ⟨n, ⟨intBits_nat _ _ t, t⟩, rfl⟩
theorem bitOr_add {ns : List Int} {k : Int} (hk : 0 ≤ k) : Builtin.bitOr (bitsZ ns : Nat) (1 * 2 ^ k.toNat) = (bitsZ (k :: ns) : Nat) := by
  have e : (1 : Int) * 2 ^ k.toNat = ((2 ^ k.toNat : Nat) : Int) := by
    rw [Int.one_mul, Int.natCast_pow]
    rfl
  rw [e, L2.bitOr_nn (Int.natCast_nonneg _) (Int.natCast_nonneg _), Int.toNat_natCast, Int.toNat_natCast]
  unfold bitsZ
  rw [List.map_cons, Nat.or_comm]
  rfl
end Pu
set_option Elab.async false
set_option linter.all false
set_option maxRecDepth 100000
set_option maxHeartbeats 4000000
set_option autoImplicit false
namespace K21
open PySem PySem.Spec PyProof.Rows L2 Pu
local macro_rules | `(tactic| walk_at "rd") => `(tactic| first
  | exact .inl rd_add_int | exact .inl rd_I0 | exact .inl rd_eq_int | exact .inl rd_eq_str | exact .inl rd_B0 | exact .inl rd_eq_bl | exact .inl rd_ne_int | exact .inl rd_ne_str
  | exact .inl (rd_I (by first | decide | omega)) | exact .inl (rd_fdiv (by decide +kernel) (by decide +kernel))
  | exact .inl (rd_mulR ⟨by decide, by decide⟩) | exact .inl (rd_mulL ⟨by decide, by decide⟩)
  | exact .inl (rd_ixT rfl) | exact .inl (rd_ixL rfl) | walk_at "rd1")
local macro_rules | `(tactic| walk_at "pre") => `(tactic| first
  | exact .mk | exact .mk (by first | omega | assumption | decide) | walk_at "pre1")
local macro_rules | `(tactic| walk_at "call") => `(tactic| first
  | (apply CallIs.dat; walk_at "pre") | (apply CallIs.new; walk_at "pre"))
local macro_rules | `(tactic| walk_at "rc") => `(tactic| first
  | exact .inl rc_lenK | exact .inl rc_lenTK | exact .inl (rc_isTy rfl (by decide)) | exact .inl rc_all | exact .inl rc_any | exact .inl rc_sum | exact .inl rc_int_bl | exact .inl rc_abs
  | exact .inr ⟨_, rfl, rcn_listK⟩ | exact .inr ⟨_, rfl, rcn_listTK⟩ | walk_at "rc1")
local macro_rules | `(tactic| walk_at "ev") => `(tactic| first
  | exact evm_int | exact evm_str | exact evm_bl | exact evm_non | exact evm_ty | exact evm_cls | exact evm_var rfl | exact evm_own rfl | exact evm_ownD rfl
  | (apply evm_op; (walk_at "ev"); (walk_at "ev"); (walk_at "rd"))
  | (apply evm_tup; (walk_at "evs"); first | decide | (simp; done))
  | (apply evm_lst; (walk_at "evs"); first | decide | (simp; done))
  | (apply evm_call; (walk_at "evs"); (walk_at "call"))
  | (apply evm_cb; (walk_at "evs"); (walk_at "rc"))
  | (apply evm_and; (walk_at "ev"); (intro _; walk_at "ev"))
  | (apply evm_or; (walk_at "ev"); (intro _; walk_at "ev"))
  | (apply evm_not; (walk_at "ev"))
  | (apply EvN.toM; (walk_at "evn")) | walk_at "ev1")
local macro_rules | `(tactic| walk_at "evs") => `(tactic| first | exact evms_nil | (apply evms_cons; (walk_at "ev"); (walk_at "evs")))
local macro_rules | `(tactic| walk_at "evo") => `(tactic| first | exact evo_none | (apply evo_someM; (walk_at "ev")))
local macro_rules | `(tactic| walk_at "evn") => `(tactic| first
  | (apply evn_lstM; (walk_at "evs"); rfl; first | decide | (simp; done))
  | (apply evn_callM; (walk_at "evs"); rfl; walk_at "pre")
  | (apply evn_cbM; (walk_at "evs"); rfl; first | exact rcn_listK | exact rcn_listTK)
  | (apply evn_opM; (walk_at "ev"); (walk_at "ev"); rfl; walk_at "rdn")
  | (apply evn_slM; (walk_at "ev"); rfl; (walk_at "evo"); (walk_at "evo")) | walk_at "evn1")
local macro_rules | `(tactic| walk_at "evt") => `(tactic| first
  | (apply evt_testM; walk_at "ev")
  | (apply evt_BM; walk_at "ev")
  | (apply evt_not; walk_at "evt")
  | (apply evt_and; (walk_at "evt"); (intro _; walk_at "evt"))
  | (apply evt_or; (walk_at "evt"); (intro _; walk_at "evt"))
  | exact evt_yes)
local macro_rules | `(tactic| walk_at "set") => `(tactic| (apply ex_setM; (walk_at "ev"); rfl))
local macro_rules | `(tactic| walk_at "setN") => `(tactic| (apply ex_setN; (walk_at "evn")))
local macro_rules | `(tactic| walk_at "ret") => `(tactic| (apply ex_retM; (walk_at "ev"); rfl))
local macro_rules | `(tactic| walk_at "retN") => `(tactic| (apply ex_retN; (walk_at "evn")))
local macro_rules | `(tactic| walk_at "if") => `(tactic| (apply ex_ifs; (walk_at "evt")))

def topS (i : Nat) : Stmt := PySem.Challenge.pw_macrohouse_k21_numbers_of_sets.main.body.getD i (.Pass ⟨0, 0, 0, 0⟩)
abbrev S_added : Stmt := topS 1
theorem sc_added : FnScope ["bits", "number"] ["bits", "number"] (defScope S_added) := ⟨rfl, rfl, rfl, by decide +kernel, rfl, by decide +kernel, by decide +kernel⟩
abbrev S_holds : Stmt := topS 2
theorem sc_holds : FnScope ["bits", "number"] ["bits", "number"] (defScope S_holds) := ⟨rfl, rfl, rfl, by decide +kernel, rfl, by decide +kernel, by decide +kernel⟩
abbrev S_told : Stmt := topS 3
theorem sc_told : FnScope ["bits", "number"] ["bits"] (defScope S_told) := ⟨rfl, rfl, rfl, by decide +kernel, rfl, by decide +kernel, by decide +kernel⟩
abbrev S__law_cell : Stmt := topS 5
theorem sc__law_cell : FnScope ["_law_script", "_law_k", "_law_number"] ["_law_script", "_law_k"] (defScope S__law_cell) := ⟨rfl, rfl, rfl, by decide +kernel, rfl, by decide +kernel, by decide +kernel⟩
abbrev S__law_whole : Stmt := topS 6
theorem sc__law_whole : FnScope ["_law_found"] ["_law_found"] (defScope S__law_whole) := ⟨rfl, rfl, rfl, by decide +kernel, rfl, by decide +kernel, by decide +kernel⟩
abbrev S__law_numbers : Stmt := topS 7
theorem sc__law_numbers : FnScope ["_law_script", "_law_first", "_law_k"] ["_law_script"] (defScope S__law_numbers) := ⟨rfl, rfl, rfl, by decide +kernel, rfl, by decide +kernel, by decide +kernel⟩
abbrev S__law_is : Stmt := topS 8
theorem sc__law_is : FnScope ["_law_found", "_law_due"] ["_law_found", "_law_due"] (defScope S__law_is) := ⟨rfl, rfl, rfl, by decide +kernel, rfl, by decide +kernel, by decide +kernel⟩
abbrev S__law_way : Stmt := topS 9
theorem sc__law_way : FnScope ["_law_found", "_law_due", "_law_one"] ["_law_found", "_law_due"] (defScope S__law_way) := ⟨rfl, rfl, rfl, by decide +kernel, rfl, by decide +kernel, by decide +kernel⟩
abbrev S_law : Stmt := topS 10
theorem sc_law : FnScope ["_law_script", "_law_numbers_here", "_law_bits", "_law_way_here", "_law_number", "_law_one", "_law_more", "_law_near", "_law_far", "_law_most"] ["_law_script"] (defScope S_law) := ⟨rfl, rfl, rfl, by decide +kernel, rfl, by decide +kernel, by decide +kernel⟩
structure Tx (K : PySem.W.Frag) (mg : Str → Option Value) where
  a_added : Addr
  d_added : FuncData
  F_added : Fun K "added" "added" S_added a_added d_added
  b_added : Binds K d_added ["bits", "number"] []
  g_added : mg "added" = some (.ref a_added)
  a_holds : Addr
  d_holds : FuncData
  F_holds : Fun K "holds" "holds" S_holds a_holds d_holds
  b_holds : Binds K d_holds ["bits", "number"] []
  g_holds : mg "holds" = some (.ref a_holds)
  a_told : Addr
  d_told : FuncData
  F_told : Fun K "told" "told" S_told a_told d_told
  b_told : Binds K d_told ["bits"] []
  g_told : mg "told" = some (.ref a_told)
  a__law_cell : Addr
  d__law_cell : FuncData
  F__law_cell : Fun K "_law_cell" "_law_cell" S__law_cell a__law_cell d__law_cell
  b__law_cell : Binds K d__law_cell ["_law_script", "_law_k"] []
  g__law_cell : mg "_law_cell" = some (.ref a__law_cell)
  a__law_whole : Addr
  d__law_whole : FuncData
  F__law_whole : Fun K "_law_whole" "_law_whole" S__law_whole a__law_whole d__law_whole
  b__law_whole : Binds K d__law_whole ["_law_found"] []
  g__law_whole : mg "_law_whole" = some (.ref a__law_whole)
  a__law_numbers : Addr
  d__law_numbers : FuncData
  F__law_numbers : Fun K "_law_numbers" "_law_numbers" S__law_numbers a__law_numbers d__law_numbers
  b__law_numbers : Binds K d__law_numbers ["_law_script"] []
  g__law_numbers : mg "_law_numbers" = some (.ref a__law_numbers)
  a__law_is : Addr
  d__law_is : FuncData
  F__law_is : Fun K "_law_is" "_law_is" S__law_is a__law_is d__law_is
  b__law_is : Binds K d__law_is ["_law_found", "_law_due"] []
  g__law_is : mg "_law_is" = some (.ref a__law_is)
  a__law_way : Addr
  d__law_way : FuncData
  F__law_way : Fun K "_law_way" "_law_way" S__law_way a__law_way d__law_way
  b__law_way : Binds K d__law_way ["_law_found", "_law_due"] []
  g__law_way : mg "_law_way" = some (.ref a__law_way)
  a_law : Addr
  d_law : FuncData
  F_law : Fun K "law" "law" S_law a_law d_law
  b_law : Binds K d_law ["_law_script"] []
  g_law : mg "law" = some (.ref a_law)
  n_abs : mg "abs" = none
  n_all : mg "all" = none
  n_bool : mg "bool" = none
  n_int : mg "int" = none
  n_isinstance : mg "isinstance" = none
  n_len : mg "len" = none
  n_list : mg "list" = none
  n_range : mg "range" = none
  n_set : mg "set" = none
  n_sorted : mg "sorted" = none
  n_sum : mg "sum" = none
/-! ### what the defs compute -/
def cell (xs : List Int) (k : Int) : Int :=
  if k < xs.length then xs.getD k.toNat 0 else
    let n := if (0 : Int) < xs.length then (xs.getD (k * 7 % xs.length).toNat 0 * 48271 + k * 7919) % 2147483647 else k * 7919 + 5
    n * n % 2147483629
def numbers (xs : List Int) : List Int :=
  if cell xs 0 % 3 = 1 then (List.range (cell xs 0 / 3 % 60).toNat).map fun (k : Nat) => cell xs 1 % 240 + (k : Int)
  else (List.range (cell xs 0 / 3 % 25).toNat).map fun (k : Nat) => cell xs (2 + (k : Int)) % 300
theorem numbers_ok (xs : List Int) : (numbers xs).length < 60 ∧ ∀ n ∈ numbers xs, 0 ≤ n ∧ n < 300 := by
  unfold numbers
  have a1 := Int.emod_lt_of_pos (cell xs 0 / 3) (show (0 : Int) < 60 by decide)
  have a2 := Int.emod_lt_of_pos (cell xs 0 / 3) (show (0 : Int) < 25 by decide)
  split
  · refine ⟨by rw [List.length_map, List.length_range]; omega, fun n hn => ?_⟩
    obtain ⟨k, hk, rfl⟩ := List.mem_map.mp hn
    have := List.mem_range.mp hk
    have b1 := Int.emod_nonneg (cell xs 1) (show (240 : Int) ≠ 0 by decide)
    have b2 := Int.emod_lt_of_pos (cell xs 1) (show (0 : Int) < 240 by decide)
    omega
  · refine ⟨by rw [List.length_map, List.length_range]; omega, fun n hn => ?_⟩
    obtain ⟨k, hk, rfl⟩ := List.mem_map.mp hn
    have b1 := Int.emod_nonneg (cell xs (2 + (k : Int))) (show (300 : Int) ≠ 0 by decide)
    have b2 := Int.emod_lt_of_pos (cell xs (2 + (k : Int))) (show (0 : Int) < 300 by decide)
    omega
def Nn (ns : List Int) : Prop := ∀ n ∈ ns, 0 ≤ n ∧ n < 20001
theorem Nn.nn {ns : List Int} (h : Nn ns) : ∀ n ∈ ns, 0 ≤ n := fun n hn => (h n hn).1
theorem Nn.cons {ns : List Int} (h : Nn ns) {k : Int} (hk : 0 ≤ k ∧ k < 20001) : Nn (k :: ns) := fun n hn => by
  rcases List.mem_cons.mp hn with rfl | hn
  · exact hk
  · exact h n hn
theorem Nn.srt {ns : List Int} (h : Nn ns) : Nn (srt ns) := fun n hn => h n (srt_mem.mp hn)
theorem Nn.bits {ns : List Int} (h : Nn ns) : Builtin.Int.intBits (bitsZ ns : Nat) ≤ 20001 := intBits_le _ _ (bitsZ_lt h.nn fun n hn => (h n hn).2) (by decide)
inductive P__law_cell : List Dat → Res → Prop
  | mk {xs : List Int} {k : Int} (h0 : 0 ≤ k ∧ k < 1000) : P__law_cell [.lst (xs.map Dat.int), .int k] (.dat (.int (cell xs k)))
inductive P_added : List Dat → Res → Prop
  | mk {ns : List Int} {k : Int} (h0 : 0 ≤ k ∧ k < 20001) : P_added [.int (bitsZ ns : Nat), .int k] (.dat (.int (bitsZ (k :: ns) : Nat)))
inductive P_holds : List Dat → Res → Prop
  | mk {ns : List Int} {k : Int} (h0 : Nn ns ∧ 0 ≤ k) : P_holds [.int (bitsZ ns : Nat), .int k] (.dat (.bl (decide (k ∈ ns))))
inductive P_told : List Dat → Res → Prop
  | mk {ns : List Int} (h0 : Nn ns) : P_told [.int (bitsZ ns : Nat)] (.new ((srt ns).map Dat.int))
inductive P__law_whole : List Dat → Res → Prop
  | mk {k : Int} : P__law_whole [.int k] (.dat (.bl true))
inductive P__law_numbers : List Dat → Res → Prop
  | mk {xs : List Int} : P__law_numbers [.lst (xs.map Dat.int)] (.new ((numbers xs).map Dat.int))
inductive P__law_is : List Dat → Res → Prop
  | mk {a b : Bool} : P__law_is [.bl a, .bl b] (.dat (.bl (a == b)))
inductive P__law_way : List Dat → Res → Prop
  | mk {xs ys : List Int} (h : xs.length < 100000) : P__law_way [.lst (xs.map Dat.int), .lst (ys.map Dat.int)] (.dat (.bl (decide (xs = ys))))
inductive P_law : List Dat → Res → Prop
  | mk {xs : List Int} (h : xs.length ≤ 63) : P_law [.lst (xs.map Dat.int)] (.dat (.bl true))
section
variable {P : Program} {w : World} {K : PySem.W.Frag} {mg : Str → Option Value} {base : Heap}
theorem ok_added (T : Tx K mg) : FnOk P w K mg base CX0 1 T.a_added T.d_added ["bits", "number"] (spF K P_added) := by
  refine ok_def T.F_added sc_added (fun ds r h => by cases h <;> rfl) fun cdv A outer s H E hr => ⟨_, (pss_one (ps_ret (pe_op op_or (pv 0) (pe_op op_shl pe_int (pv 1))))), fun ds r h => ?_⟩
  have hu := hu_of hr
  try dsimp only [L2.Cx.nox, L2.Cx.wish, L2.cxOf]
  cases h with
  | @mk ns k h0 =>
  refine ex_retM (evm_op (evm_var rfl) (evm_op evm_int (evm_var rfl) (.inl (rd_I ⟨h0.1, by omega, by decide⟩))) (.inl rd_I0)) rfl ?_
  show Res.dat _ = Res.dat _
  rw [bitOr_add h0.1]
theorem ok_holds (T : Tx K mg) : FnOk P w K mg base CX0 1 T.a_holds T.d_holds ["bits", "number"] (spF K P_holds) := by
  refine ok_def T.F_holds sc_holds (fun ds r h => by cases h <;> rfl) fun cdv A outer s H E hr => ⟨_, (pss_one (ps_ret (pe_cmpR (op_eqK (K := K) rfl hr.units) (pe_op op_and (pe_op op_shr (pv 0) (pv 1)) pe_int) pe_int (nomark _)))), fun ds r h => ?_⟩
  have hu := hu_of hr
  try dsimp only [L2.Cx.nox, L2.Cx.wish, L2.cxOf]
  cases h with
  | @mk ns k h0 =>
  refine ex_retM (evm_op (evm_op (evm_op (evm_var rfl) (evm_var rfl) (.inl (rd_I h0.2))) evm_int (.inl rd_I0)) evm_int (.inl rd_eq_int)) rfl ?_
  show Res.dat _ = Res.dat _
  rw [holds_nat, bitsZ_test h0.1.nn, Int.toNat_of_nonneg h0.2]
theorem ok_told (T : Tx K mg) : FnOk P w K mg base CX0 2 T.a_told T.d_told ["bits"] (spF K P_told) := by
  refine ok_def T.F_told sc_told (fun ds r h => by cases h <;> rfl) fun cdv A outer s H E hr => ⟨_, (pss_one (ps_ret (pe_lc (own := [("number", 1)]) rfl sc_told.nd (pi_range1 (by rfl) T.n_range (pa_cons (pe_bits (pv 0)) pa_nil)) (blkOk_by (own := [("number", 1)]) (N := ["bits", "number"]) (sc := defScope S_told) (by decide +kernel)) (fun _ _ _ _ _ => (pg_name (i := 1) sc_told.nd rfl (by first | exact Or.inl rfl | exact Or.inr rfl))) (fun _ _ _ _ _ => pts_one (pt_val (pe_call (ok_holds T) (hr.mono (by decide)) (by rfl) T.g_holds T.F_holds.kp T.b_holds .nil pass0 (pa_cons (pv 0) (pa_cons (pv 1) pa_nil))))) (fun _ _ _ _ _ => (pv 1))))), fun ds r h => ?_⟩
  have hu := hu_of hr
  try dsimp only [L2.Cx.nox, L2.Cx.wish, L2.cxOf]
  cases h with
  | @mk ns h0 =>
  have hb := h0.bits
  apply ex_retN
  · refine evn_lcT (List.range (Builtin.Int.intBits (bitsZ ns : Nat))) (fun (k : Nat) => Dat.int (0 + (k : Int))) (bitsZ ns).testBit (fun (k : Nat) => Dat.int (0 + (k : Int))) ?_ (fun k hk => ?_) ?_
    · have q := evw_rng1M (K := K) (ε := startE 2 [.int (bitsZ ns : Nat)]) (evms_cons (evm_bits (evm_var (i := 0) rfl)) evms_nil) ⟨by omega, by omega⟩
      rw [Int.toNat_natCast] at q
      exact q
    · refine ⟨evt_is (evt_BM (evm_call (evms_cons (evm_var rfl) (evms_cons (evm_var rfl) evms_nil)) (.dat (.mk ⟨h0, by omega⟩)))) ?_, fun _ => EvM.toD (evm_var rfl) rfl⟩
      rw [bitsZ_test h0.nn, Int.zero_add]
    · rw [List.length_range]
      omega
  · show Res.new _ = Res.new _
    rw [← told_is h0.nn, List.map_map]
    simp [Function.comp]
theorem ok__law_whole (T : Tx K mg) : FnOk P w K mg base CX0 1 T.a__law_whole T.d__law_whole ["_law_found"] (spF K P__law_whole) := by
  refine ok_def T.F__law_whole sc__law_whole (fun ds r h => by cases h <;> rfl) fun cdv A outer s H E hr => ⟨_, (pss_one (ps_ret (pe_and (pe_callB (call_isiK1 (K := K) rfl) (by rfl) T.n_isinstance (by decide +kernel) (pa_cons (pv 0) (pa_cons (pe_bltn (v := .ty "int") (u := .type "int") (by rfl) T.n_int (by decide +kernel) rfl) pa_nil))) (pe_one (pe_not (pe_callB (call_isiK1 (K := K) rfl) (by rfl) T.n_isinstance (by decide +kernel) (pa_cons (pv 0) (pa_cons (pe_bltn (v := .ty "bool") (u := .type "bool") (by rfl) T.n_bool (by decide +kernel) rfl) pa_nil)))))))), fun ds r h => ?_⟩
  have hu := hu_of hr
  try dsimp only [L2.Cx.nox, L2.Cx.wish, L2.cxOf]
  cases h with
  | @mk k =>
  refine ex_retM (evm_and (evm_cb (evms_cons (evm_var rfl) (evms_cons evm_ty evms_nil)) (.inl (rc_isTy rfl (by decide)))) fun _ => evm_not (evm_cb (evms_cons (evm_var rfl) (evms_cons evm_ty evms_nil)) (.inl (rc_isTy rfl (by decide))))) rfl ?_
  simp [Done]
theorem ok__law_is (T : Tx K mg) : FnOk P w K mg base CX0 1 T.a__law_is T.d__law_is ["_law_found", "_law_due"] (spF K P__law_is) := by
  refine ok_def T.F__law_is sc__law_is (fun ds r h => by cases h <;> rfl) fun cdv A outer s H E hr => ⟨_, (pss_one (ps_ret (pe_and (pe_callB (call_isiK1 (K := K) rfl) (by rfl) T.n_isinstance (by decide +kernel) (pa_cons (pv 0) (pa_cons (pe_bltn (v := .ty "bool") (u := .type "bool") (by rfl) T.n_bool (by decide +kernel) rfl) pa_nil))) (pe_one (pe_cmpR (op_eqK (K := K) rfl hr.units) (pv 0) (pv 1) (nomark _)))))), fun ds r h => ?_⟩
  have hu := hu_of hr
  try dsimp only [L2.Cx.nox, L2.Cx.wish, L2.cxOf]
  cases h with
  | @mk a b =>
  walk_at "ret"
  simp [Done]
theorem ok__law_way (T : Tx K mg) : FnOk P w K mg base CX0 2 T.a__law_way T.d__law_way ["_law_found", "_law_due"] (spF K P__law_way) := by
  refine ok_def T.F__law_way sc__law_way (fun ds r h => by cases h <;> rfl) fun cdv A outer s H E hr => ⟨_, (pss_cons (ps_if (PW.pt (pw_or (pt_not (pt_val (pe_callB (call_isiK1 (K := K) rfl) (by rfl) T.n_isinstance (by decide +kernel) (pa_cons (pv 0) (pa_cons (pe_bltn (v := .ty "list") (u := .type "list") (by rfl) T.n_list (by decide +kernel) rfl) pa_nil))))) (pw_or1 (pt_cmpR (op_neK (K := K) rfl hr.units) (pv 0) (pv 1) (nomark _))))) (pss_one (ps_ret pe_bl)) pss_nil)
      (pss_one (ps_ret (pe_callB (cr_allK (K := K) rfl rfl) (by rfl) T.n_all (by decide +kernel) (pa_cons (pe_lc (own := [("_law_one", 2)]) rfl sc__law_way.nd (pi_listK (K := K) rfl (pv 0)) (blkOk_by (own := [("_law_one", 2)]) (N := ["_law_found", "_law_due", "_law_one"]) (sc := defScope S__law_way) (by decide +kernel)) (fun _ _ _ _ _ => (pg_name (i := 2) sc__law_way.nd rfl (by first | exact Or.inl rfl | exact Or.inr rfl))) (fun _ _ _ _ _ => pts_nil) (fun _ _ _ _ _ => (pe_call (ok__law_whole T) (hr.mono (by decide)) (by rfl) T.g__law_whole T.F__law_whole.kp T.b__law_whole .nil pass0 (pa_cons (pv 2) pa_nil)))) pa_nil))))), fun ds r h => ?_⟩
  have hu := hu_of hr
  try dsimp only [L2.Cx.nox, L2.Cx.wish, L2.cxOf]
  cases h with
  | @mk xs ys h0 =>
  apply ex_ifs (b := !decide (xs = ys))
  · refine evt_is (evt_or (a := false) (b := !decide (xs = ys)) (evt_is (evt_not (evt_BM (evm_cb (evms_cons (evm_var rfl) (evms_cons evm_ty evms_nil)) (.inl (rc_isTy rfl (by decide)))))) (by simp)) fun _ => evt_is (evt_testM (evm_op (evm_var rfl) (evm_var rfl) (.inl (rd_ne 1 1 (by simp [Dat.plain, plains_ints]) (by simp [Dat.plain, plains_ints]))))) ?_) ?_
    · rw [eqv_lst, eqvs_ints]
    · simp
  · intro e
    apply ex_left
    walk_at "ret"
    show Res.dat _ = Res.dat _
    simp at e
    simp [e]
  · intro e
    apply ex_seqN
    simp at e
    subst e
    have q : EvN K (tLc (iList K (tVar 0)) (gName 2) tYes (tCall (spF K P__law_whole) [] E0 (tCons (tVar 2) tNil)) [2]) (startE 3 [.lst (xs.map Dat.int), .lst (xs.map Dat.int)]) ((xs.map fun _ => true).map Dat.bl) := by
      rw [List.map_map]
      exact evn_lc1 xs Dat.int _ (evw_listM (evm_var rfl) rfl) (fun n hn => EvM.toD (evm_call (evms_cons (evm_var rfl) evms_nil) (.dat .mk)) rfl) (by omega)
    refine ex_retM (evm_cb (evms_cons q.toM evms_nil) (.inl rc_all)) rfl ?_
    show Res.dat _ = Res.dat _
    simp
theorem ok__law_cell (T : Tx K mg) : FnOk P w K mg base CX0 1 T.a__law_cell T.d__law_cell ["_law_script", "_law_k"] (spF K P__law_cell) := by
  refine ok_def T.F__law_cell sc__law_cell (fun ds r h => by cases h <;> rfl) fun cdv A outer s H E hr => ⟨_, (pss_cons (ps_if (pt_cmpR op_lt (pv 1) (pe_callB (call_lenK (K := K) rfl) (by rfl) T.n_len (by decide +kernel) (pa_cons (pv 0) pa_nil)) (nomark _)) (pss_one (ps_ret (pe_ix (ix_seqK (K := K) rfl) (pv 0) (pv 1) (fun _ _ => rfl)))) pss_nil)
      (pss_cons (ps_set (i := 2) sc__law_cell.nd rfl (by first | exact Or.inl rfl | exact Or.inr rfl) (pe_op (op_addK (K := K) rfl) (pe_op op_mulU (pv 1) pe_int) pe_int))
      (pss_cons (ps_if (pt_cmpR op_gt (pe_callB (call_lenK (K := K) rfl) (by rfl) T.n_len (by decide +kernel) (pa_cons (pv 0) pa_nil)) pe_int (nomark _)) (pss_one (ps_set (i := 2) sc__law_cell.nd rfl (by first | exact Or.inl rfl | exact Or.inr rfl) (pe_op op_mod (pe_op (op_addK (K := K) rfl) (pe_op op_mulU (pe_ix (ix_seqK (K := K) rfl) (pv 0) (pe_op op_mod (pe_op op_mulU (pv 1) pe_int) (pe_callB (call_lenK (K := K) rfl) (by rfl) T.n_len (by decide +kernel) (pa_cons (pv 0) pa_nil))) (fun _ _ => rfl)) pe_int) (pe_op op_mulU (pv 1) pe_int)) pe_int))) pss_nil)
      (pss_one (ps_ret (pe_op op_mod (pe_op op_mulU (pv 2) (pv 2)) pe_int)))))), fun ds r h => ?_⟩
  have hu := hu_of hr
  try dsimp only [L2.Cx.nox, L2.Cx.wish, L2.cxOf]
  cases h with
  | @mk xs k h0 =>
  walk_at "if"
  · intro e
    simp only [List.length_map, decide_eq_true_eq] at e
    apply ex_left
    refine ex_retM (evm_op (evm_var rfl) (evm_var rfl) (.inl (rd_ixL (atI_int h0.1 e)))) rfl ?_
    simp [Then, Done, cell, e]
  · intro e
    simp only [List.length_map, decide_eq_false_iff_not] at e
    apply ex_seqN
    walk_at "set"
    walk_at "if"
    · intro e2
      simp only [List.length_map, decide_eq_true_eq] at e2
      have hm : (0 : Int) < xs.length := e2
      have hk := Int.emod_nonneg (k * 7) (show (xs.length : Int) ≠ 0 by omega)
      have hk2 := Int.emod_lt_of_pos (k * 7) hm
      refine ex_setM (evm_op (evm_op (evm_op (evm_op (evm_var rfl) (evm_op (evm_op (evm_var rfl) evm_int (.inl (rd_mulR ⟨by decide, by decide⟩))) (evm_cb (evms_cons (evm_var rfl) evms_nil) (.inl rc_lenK)) (.inl (rd_I (by rw [List.length_map]; exact hm)))) (.inl (rd_ixL (by rw [List.length_map]; exact atI_int hk hk2)))) evm_int (.inl (rd_mulR ⟨by decide, by decide⟩)))
        (evm_op (evm_var rfl) evm_int (.inl (rd_mulR ⟨by decide, by decide⟩))) (.inl rd_add_int)) evm_int (.inl (rd_I (by decide)))) rfl ?_
      apply ex_seqN
      refine ex_retM (evm_op (evm_op (evm_var rfl) (evm_var rfl) (.inl (rd_mulR ?_))) evm_int (.inl (rd_I (by decide)))) rfl ?_
      · have a := Int.emod_nonneg (xs.getD (k * 7 % xs.length).toNat 0 * 48271 + k * 7919) (show (2147483647 : Int) ≠ 0 by decide)
        have b := Int.emod_lt_of_pos (xs.getD (k * 7 % xs.length).toNat 0 * 48271 + k * 7919) (show (0 : Int) < 2147483647 by decide)
        omega
      · show Res.dat _ = Res.dat _
        unfold cell
        rw [if_neg e]
        simp only [e2, if_true, if_false]
    · intro e2
      simp only [List.length_map, decide_eq_false_iff_not] at e2
      apply ex_seqN
      refine ex_retM (evm_op (evm_op (evm_var rfl) (evm_var rfl) (.inl (rd_mulR ?_))) evm_int (.inl (rd_I (by decide)))) rfl ?_
      · omega
      · show Res.dat _ = Res.dat _
        unfold cell
        rw [if_neg e]
        simp only [e2, if_true, if_false]
theorem ok__law_numbers (T : Tx K mg) : FnOk P w K mg base CX0 2 T.a__law_numbers T.d__law_numbers ["_law_script"] (spF K P__law_numbers) := by
  refine ok_def T.F__law_numbers sc__law_numbers (fun ds r h => by cases h <;> rfl) fun cdv A outer s H E hr => ⟨_, (pss_cons (ps_if (pt_cmpR (op_eqK (K := K) rfl hr.units) (pe_op op_mod (pe_call (ok__law_cell T) (hr.mono (by decide)) (by rfl) T.g__law_cell T.F__law_cell.kp T.b__law_cell .nil pass0 (pa_cons (pv 0) (pa_cons pe_int pa_nil))) pe_int) pe_int (nomark _)) (pss_cons (ps_set (i := 1) sc__law_numbers.nd rfl (by first | exact Or.inl rfl | exact Or.inr rfl) (pe_op op_mod (pe_call (ok__law_cell T) (hr.mono (by decide)) (by rfl) T.g__law_cell T.F__law_cell.kp T.b__law_cell .nil pass0 (pa_cons (pv 0) (pa_cons pe_int pa_nil))) pe_int))
      (pss_one (ps_ret (pe_listRg rfl (by rfl) T.n_list (prg_2 (by rfl) T.n_range (pv 1) (pe_op (op_addK (K := K) rfl) (pv 1) (pe_op op_mod (pe_op op_fdivW (pe_call (ok__law_cell T) (hr.mono (by decide)) (by rfl) T.g__law_cell T.F__law_cell.kp T.b__law_cell .nil pass0 (pa_cons (pv 0) (pa_cons pe_int pa_nil))) pe_int) pe_int))))))) pss_nil)
      (pss_one (ps_ret (pe_lc (own := [("_law_k", 2)]) rfl sc__law_numbers.nd (pi_range1 (by rfl) T.n_range (pa_cons (pe_op op_mod (pe_op op_fdivW (pe_call (ok__law_cell T) (hr.mono (by decide)) (by rfl) T.g__law_cell T.F__law_cell.kp T.b__law_cell .nil pass0 (pa_cons (pv 0) (pa_cons pe_int pa_nil))) pe_int) pe_int) pa_nil)) (blkOk_by (own := [("_law_k", 2)]) (N := ["_law_script", "_law_first", "_law_k"]) (sc := defScope S__law_numbers) (by decide +kernel)) (fun _ _ _ _ _ => (pg_name (i := 2) sc__law_numbers.nd rfl (by first | exact Or.inl rfl | exact Or.inr rfl))) (fun _ _ _ _ _ => pts_nil) (fun _ _ _ _ _ => (pe_op op_mod (pe_call (ok__law_cell T) (hr.mono (by decide)) (by rfl) T.g__law_cell T.F__law_cell.kp T.b__law_cell .nil pass0 (pa_cons (pv 0) (pa_cons (pe_op (op_addK (K := K) rfl) pe_int (pv 2)) pa_nil))) pe_int)))))), fun ds r h => ?_⟩
  have hu := hu_of hr
  try dsimp only [L2.Cx.nox, L2.Cx.wish, L2.cxOf]
  cases h with
  | @mk xs =>
  have a0 := Int.emod_nonneg (cell xs 0 / 3) (show (60 : Int) ≠ 0 by decide)
  have a1 := Int.emod_lt_of_pos (cell xs 0 / 3) (show (0 : Int) < 60 by decide)
  have a2 := Int.emod_nonneg (cell xs 0 / 3) (show (25 : Int) ≠ 0 by decide)
  have a3 := Int.emod_lt_of_pos (cell xs 0 / 3) (show (0 : Int) < 25 by decide)
  have a4 := Int.emod_nonneg (cell xs 1) (show (240 : Int) ≠ 0 by decide)
  have a5 := Int.emod_lt_of_pos (cell xs 1) (show (0 : Int) < 240 by decide)
  walk_at "if"
  · intro e
    simp only [beq_iff_eq] at e
    apply ex_left
    walk_at "set"
    apply ex_retN
    · exact evn_listRg (by walk_at "ev") (by walk_at "ev") (.of_le a4 (by omega) (by omega) (by omega))
    · show Res.new _ = Res.new _
      unfold numbers
      rw [if_pos e, List.map_map]
      have : (cell xs 1 % 240 + cell xs 0 / 3 % 60 - cell xs 1 % 240).toNat = (cell xs 0 / 3 % 60).toNat := by omega
      rw [this]
      rfl
  · intro e
    simp only [beq_eq_false_iff_ne] at e
    apply ex_seqN
    apply ex_retN
    · refine evn_lc1 (List.range (cell xs 0 / 3 % 25).toNat) (fun (k : Nat) => Dat.int (0 + (k : Int))) (fun (k : Nat) => Dat.int (cell xs (2 + (0 + (k : Int))) % 300)) (evw_rng1M (evms_cons (by walk_at "ev") evms_nil) (by omega)) ?_ ?_
      · intro k hk
        have hk' := List.mem_range.mp hk
        exact EvM.toD (by walk_at "ev") (by rfl)
      · rw [List.length_range]
        omega
    · show Res.new _ = Res.new _
      unfold numbers
      rw [if_neg e, List.map_map]
      simp [Function.comp]
theorem srt_ext {ns ms : List Int} (e : ∀ k, k ∈ ns ↔ k ∈ ms) : srt ns = srt ms := same_rising (srt_lt _) (srt_lt _) fun k => by rw [srt_mem, srt_mem, e]
theorem sum_bits {ns : List Int} (h : Nn ns) (p : ns.Pairwise (· < ·)) : (ns.map fun n => (1 : Int) * 2 ^ n.toNat).sum = (bitsZ ns : Nat) := by
  have q : ∀ l : List Int, (l.map fun n => (1 : Int) * 2 ^ n.toNat).sum = (sumPow (l.map Int.toNat) : Nat) := fun l => by
    induction l with
    | nil => rfl
    | cons x l ih =>
      rw [List.map_cons, List.sum_cons, ih, Int.one_mul]
      show _ = ((2 ^ x.toNat + sumPow (l.map Int.toNat) : Nat) : Int)
      rw [Int.natCast_add, Int.natCast_pow]
      rfl
  rw [q, sumPow_bits]
  · rfl
  · rw [List.pairwise_map]
    refine p.imp_of_mem fun {a b} ha hb hab => ?_
    have := h.nn a ha
    have := h.nn b hb
    omega
theorem or_disj : ∀ a b : Nat, a &&& b = 0 → a ||| b = a + b := fun a => by
  induction a using Nat.div2Induction with
  | ind a ih =>
    intro b h
    by_cases h0 : a = 0
    · subst h0
      simp
    · have h1 := ih (by omega) (b / 2) (by rw [← Nat.and_div_two, h])
      have h2 : (a &&& b) % 2 = 0 := by rw [h]
      have h3 : (a ||| b) / 2 = a / 2 + b / 2 := by rw [Nat.or_div_two, h1]
      have h4 := Nat.or_mod_two_eq_one (a := a) (b := b)
      have h5 := Nat.and_mod_two_eq_one (a := a) (b := b)
      omega
theorem most_is {ns : List Int} (h : Nn ns) {k : Int} (hk : 0 ≤ k) : ((bitsZ (k :: ns) : Nat) : Int) = (bitsZ ns : Nat) + 1 * 2 ^ k.toNat * (if (!decide (k ∈ ns)) = true then 1 else 0) := by
  have hc : ∀ n ∈ k :: ns, 0 ≤ n := fun n hn => by
    rcases List.mem_cons.mp hn with rfl | hn
    · exact hk
    · exact h.nn n hn
  by_cases m : k ∈ ns
  · have e : bitsZ (k :: ns) = bitsZ ns := bitsZ_ext hc h.nn fun j => by
      constructor
      · intro q
        rcases List.mem_cons.mp q with rfl | q
        · exact m
        · exact q
      · exact fun q => List.mem_cons_of_mem _ q
    rw [e]
    simp [m]
  · have e0 : (2 ^ k.toNat) &&& bitsZ ns = 0 := by
      apply Nat.eq_of_testBit_eq
      intro j
      rw [Nat.testBit_and, Nat.zero_testBit, Nat.testBit_two_pow]
      by_cases q : k.toNat = j
      · subst q
        rw [bitsZ_test h.nn, Int.toNat_of_nonneg hk]
        simp [m]
      · simp [q]
    have e1 : bitsZ (k :: ns) = 2 ^ k.toNat + bitsZ ns := or_disj _ _ e0
    rw [e1]
    simp [m]
    omega
theorem ok_law (T : Tx K mg) : FnOk P w K mg base CX0 4 T.a_law T.d_law ["_law_script"] (spF K P_law) := by
  refine ok_def T.F_law sc_law (fun ds r h => by cases h <;> rfl) fun cdv A outer s H E hr => ⟨_, (pss_cons (ps_set (i := 1) sc_law.nd rfl (by first | exact Or.inl rfl | exact Or.inr rfl) (pe_callB (cr_sortedSet rfl) (by rfl) T.n_sorted (by decide +kernel) (pa_cons (pe_callTy (cr_setL rfl) (by rfl) T.n_set (by decide +kernel) (pa_cons (pe_call (ok__law_numbers T) (hr.mono (by decide)) (by rfl) T.g__law_numbers T.F__law_numbers.kp T.b__law_numbers .nil pass0 (pa_cons (pv 0) pa_nil)) pa_nil)) pa_nil)))
      (pss_cons (ps_set (i := 2) sc_law.nd rfl (by first | exact Or.inl rfl | exact Or.inr rfl) (pe_callB (cr_sumK (K := K) rfl rfl) (by rfl) T.n_sum (by decide +kernel) (pa_cons (pe_lc (own := [("_law_number", 4)]) rfl sc_law.nd (pi_listK (K := K) rfl (pv 1)) (blkOk_by (own := [("_law_number", 4)]) (N := ["_law_script", "_law_numbers_here", "_law_bits", "_law_way_here", "_law_number", "_law_one", "_law_more", "_law_near", "_law_far", "_law_most"]) (sc := defScope S_law) (by decide +kernel)) (fun _ _ _ _ _ => (pg_name (i := 4) sc_law.nd rfl (by first | exact Or.inl rfl | exact Or.inr rfl))) (fun _ _ _ _ _ => pts_nil) (fun _ _ _ _ _ => (pe_op op_shl pe_int (pv 4)))) pa_nil)))
      (pss_cons (ps_set (i := 3) sc_law.nd rfl (by first | exact Or.inl rfl | exact Or.inr rfl) (pe_call (ok_told T) (hr.mono (by decide)) (by rfl) T.g_told T.F_told.kp T.b_told .nil pass0 (pa_cons (pv 2) pa_nil)))
      (pss_cons (ps_if (pt_not (pt_val (pe_call (ok__law_way T) (hr.mono (by decide)) (by rfl) T.g__law_way T.F__law_way.kp T.b__law_way .nil pass0 (pa_cons (pv 3) (pa_cons (pv 1) pa_nil))))) (pss_one (ps_ret pe_bl)) pss_nil)
      (pss_cons (ps_expr (pe_bm PySem.F.plainAttrs_list PySem.F.slot_list_append PySem.F.type_list_append mt_append (pv 3) (pa_cons pe_int pa_nil)))
      (pss_cons (ps_for PassesOwn.never rfl (pi_range1 (by rfl) T.n_range (pa_cons pe_int pa_nil)) (pg_name (i := 4) sc_law.nd rfl (by first | exact Or.inl rfl | exact Or.inr rfl)) (pss_one (ps_if (pt_not (pt_val (pe_call (ok__law_is T) (hr.mono (by decide)) (by rfl) T.g__law_is T.F__law_is.kp T.b__law_is .nil pass0 (pa_cons (pe_call (ok_holds T) (hr.mono (by decide)) (by rfl) T.g_holds T.F_holds.kp T.b_holds .nil pass0 (pa_cons (pv 2) (pa_cons (pv 4) pa_nil))) (pa_cons (pe_cmpR (op_inK (K := K) rfl) (pv 4) (pv 1) (by rfl)) pa_nil))))) (pss_one (ps_ret pe_bl)) pss_nil)))
      (pss_cons (ps_set (i := 5) sc_law.nd rfl (by first | exact Or.inl rfl | exact Or.inr rfl) (pe_op op_mod (pe_call (ok__law_cell T) (hr.mono (by decide)) (by rfl) T.g__law_cell T.F__law_cell.kp T.b__law_cell .nil pass0 (pa_cons (pv 0) (pa_cons pe_int pa_nil))) pe_int))
      (pss_cons (ps_set (i := 6) sc_law.nd rfl (by first | exact Or.inl rfl | exact Or.inr rfl) (pe_call (ok_added T) (hr.mono (by decide)) (by rfl) T.g_added T.F_added.kp T.b_added .nil pass0 (pa_cons (pv 2) (pa_cons (pv 5) pa_nil))))
      (pss_cons (ps_if (PW.pt (pw_or (pt_not (pt_val (pe_call (ok__law_whole T) (hr.mono (by decide)) (by rfl) T.g__law_whole T.F__law_whole.kp T.b__law_whole .nil pass0 (pa_cons (pv 6) pa_nil)))) (pw_or1 (pt_not (pt_val (pe_call (ok__law_way T) (hr.mono (by decide)) (by rfl) T.g__law_way T.F__law_way.kp T.b__law_way .nil pass0 (pa_cons (pe_call (ok_told T) (hr.mono (by decide)) (by rfl) T.g_told T.F_told.kp T.b_told .nil pass0 (pa_cons (pv 6) pa_nil)) (pa_cons (pe_callB (cr_sortedSet rfl) (by rfl) T.n_sorted (by decide +kernel) (pa_cons (pe_callTy (cr_setL rfl) (by rfl) T.n_set (by decide +kernel) (pa_cons (pe_op (op_addK (K := K) rfl) (pv 1) (pe_lst (pa_cons (pv 5) pa_nil))) pa_nil)) pa_nil)) pa_nil)))))))) (pss_one (ps_ret pe_bl)) pss_nil)
      (pss_cons (ps_set (i := 7) sc_law.nd rfl (by first | exact Or.inl rfl | exact Or.inr rfl) (pe_op op_mod (pe_call (ok__law_cell T) (hr.mono (by decide)) (by rfl) T.g__law_cell T.F__law_cell.kp T.b__law_cell .nil pass0 (pa_cons (pv 0) (pa_cons pe_int pa_nil))) pe_int))
      (pss_cons (ps_if (pt_cmpR (op_eqK (K := K) rfl hr.units) (pe_op op_mod (pe_call (ok__law_cell T) (hr.mono (by decide)) (by rfl) T.g__law_cell T.F__law_cell.kp T.b__law_cell .nil pass0 (pa_cons (pv 0) (pa_cons pe_int pa_nil))) pe_int) pe_int (nomark _)) (pss_one (ps_set (i := 7) sc_law.nd rfl (by first | exact Or.inl rfl | exact Or.inr rfl) (pe_op op_mod (pe_call (ok__law_cell T) (hr.mono (by decide)) (by rfl) T.g__law_cell T.F__law_cell.kp T.b__law_cell .nil pass0 (pa_cons (pv 0) (pa_cons pe_int pa_nil))) pe_int))) pss_nil)
      (pss_cons (ps_if (pt_not (pt_val (pe_call (ok__law_way T) (hr.mono (by decide)) (by rfl) T.g__law_way T.F__law_way.kp T.b__law_way .nil pass0 (pa_cons (pe_call (ok_told T) (hr.mono (by decide)) (by rfl) T.g_told T.F_told.kp T.b_told .nil pass0 (pa_cons (pe_call (ok_added T) (hr.mono (by decide)) (by rfl) T.g_added T.F_added.kp T.b_added .nil pass0 (pa_cons (pv 2) (pa_cons (pv 7) pa_nil))) pa_nil)) (pa_cons (pe_callB (cr_sortedSet rfl) (by rfl) T.n_sorted (by decide +kernel) (pa_cons (pe_callTy (cr_setL rfl) (by rfl) T.n_set (by decide +kernel) (pa_cons (pe_op (op_addK (K := K) rfl) (pv 1) (pe_lst (pa_cons (pv 7) pa_nil))) pa_nil)) pa_nil)) pa_nil))))) (pss_one (ps_ret pe_bl)) pss_nil)
      (pss_cons (ps_set (i := 8) sc_law.nd rfl (by first | exact Or.inl rfl | exact Or.inr rfl) (pe_op op_mod (pe_call (ok__law_cell T) (hr.mono (by decide)) (by rfl) T.g__law_cell T.F__law_cell.kp T.b__law_cell .nil pass0 (pa_cons (pv 0) (pa_cons pe_int pa_nil))) pe_int))
      (pss_cons (ps_set (i := 9) sc_law.nd rfl (by first | exact Or.inl rfl | exact Or.inr rfl) (pe_call (ok_added T) (hr.mono (by decide)) (by rfl) T.g_added T.F_added.kp T.b_added .nil pass0 (pa_cons (pv 2) (pa_cons (pv 8) pa_nil))))
      (pss_cons (ps_if (PW.pt (pw_or (pt_not (pt_val (pe_call (ok__law_whole T) (hr.mono (by decide)) (by rfl) T.g__law_whole T.F__law_whole.kp T.b__law_whole .nil pass0 (pa_cons (pv 9) pa_nil)))) (pw_or1 (pt_cmpR (op_neK (K := K) rfl hr.units) (pv 9) (pe_op (op_addK (K := K) rfl) (pv 2) (pe_op op_mulU (pe_op op_shl pe_int (pv 8)) (pe_callTy call_int1 (by rfl) T.n_int (by decide +kernel) (pa_cons (pe_cmpR (op_ninK (K := K) rfl) (pv 8) (pv 1) (by rfl)) pa_nil)))) (nomark _))))) (pss_one (ps_ret pe_bl)) pss_nil)
      (pss_cons (ps_if (PW.pt (pw_or (pt_not (pt_val (pe_call (ok__law_is T) (hr.mono (by decide)) (by rfl) T.g__law_is T.F__law_is.kp T.b__law_is .nil pass0 (pa_cons (pe_call (ok_holds T) (hr.mono (by decide)) (by rfl) T.g_holds T.F_holds.kp T.b_holds .nil pass0 (pa_cons (pv 2) (pa_cons (pv 8) pa_nil))) (pa_cons (pe_cmpR (op_inK (K := K) rfl) (pv 8) (pv 1) (by rfl)) pa_nil))))) (pw_or1 (pt_not (pt_val (pe_call (ok__law_is T) (hr.mono (by decide)) (by rfl) T.g__law_is T.F__law_is.kp T.b__law_is .nil pass0 (pa_cons (pe_call (ok_holds T) (hr.mono (by decide)) (by rfl) T.g_holds T.F_holds.kp T.b_holds .nil pass0 (pa_cons (pv 9) (pa_cons (pv 8) pa_nil))) (pa_cons pe_bl pa_nil)))))))) (pss_one (ps_ret pe_bl)) pss_nil)
      (pss_cons (ps_for PassesOwn.never rfl (pi_listK (K := K) rfl (pe_lst (pa_cons (pe_callB call_abs (by rfl) T.n_abs (by decide +kernel) (pa_cons (pe_op op_sub (pv 8) pe_int) pa_nil)) (pa_cons (pe_op (op_addK (K := K) rfl) (pv 8) pe_int) pa_nil)))) (pg_name (i := 4) sc_law.nd rfl (by first | exact Or.inl rfl | exact Or.inr rfl)) (pss_one (ps_if (pt_not (pt_val (pe_call (ok__law_is T) (hr.mono (by decide)) (by rfl) T.g__law_is T.F__law_is.kp T.b__law_is .nil pass0 (pa_cons (pe_call (ok_holds T) (hr.mono (by decide)) (by rfl) T.g_holds T.F_holds.kp T.b_holds .nil pass0 (pa_cons (pv 9) (pa_cons (pv 4) pa_nil))) (pa_cons (pe_or (pe_cmpR (op_eqK (K := K) rfl hr.units) (pv 4) (pv 8) (nomark _)) (pe_one (pe_cmpR (op_inK (K := K) rfl) (pv 4) (pv 1) (by rfl)))) pa_nil))))) (pss_one (ps_ret pe_bl)) pss_nil)))
      (pss_one (ps_ret (pe_and (pe_cmpR (op_eqK (K := K) rfl hr.units) (pe_call (ok_added T) (hr.mono (by decide)) (by rfl) T.g_added T.F_added.kp T.b_added .nil pass0 (pa_cons (pv 9) (pa_cons (pv 8) pa_nil))) (pv 9) (nomark _)) (pe_one (pe_call (ok__law_way T) (hr.mono (by decide)) (by rfl) T.g__law_way T.F__law_way.kp T.b__law_way .nil pass0 (pa_cons (pe_call (ok_told T) (hr.mono (by decide)) (by rfl) T.g_told T.F_told.kp T.b_told .nil pass0 (pa_cons (pv 2) pa_nil)) (pa_cons (pv 1) pa_nil)))))))))))))))))))))))), fun ds r h => ?_⟩
  have hu := hu_of hr
  try dsimp only [L2.Cx.nox, L2.Cx.wish, L2.cxOf]
  cases h with
  | @mk xs h0 =>
  have n0 := numbers_ok xs
  refine ex_setM (EvN.toM (evn_sortedSet (EvMs.toH (evms_cons (evm_call (evms_cons (evm_var rfl) evms_nil) (.new .mk)) evms_nil)) (by omega))) rfl ?_
  have hN : Nn (srt (numbers xs)) := Nn.srt fun n hn => ⟨(n0.2 n hn).1, by have := (n0.2 n hn).2; omega⟩
  have hlt := srt_lt (numbers xs)
  have hlen : (srt (numbers xs)).length < 62 := by
    have : ∀ l : List Int, (srt l).length ≤ l.length := fun l => by
      induction l with
      | nil => exact Nat.le_refl _
      | cons x l ih =>
        have g : ∀ (x : Int) (l : List Int), (insI x l).length ≤ l.length + 1 := fun x l => by
          induction l with
          | nil => exact Nat.le_refl _
          | cons y l ih =>
            unfold insI
            split
            · simp
            · split
              · simp
              · simp only [List.length_cons]
                omega
        have := g x (srt l)
        show (insI x (srt l)).length ≤ l.length + 1
        omega
    have := this (numbers xs)
    omega
  generalize srt (numbers xs) = S at *
  refine ex_setM (evm_is (evm_cb (evms_cons (EvN.toM (evn_is (b := (S.map fun n => (1 : Int) * 2 ^ n.toNat).map Dat.int) (evn_lc1 S Dat.int (fun n => .int (1 * 2 ^ n.toNat)) (evw_listM (evm_var rfl) rfl)
    (fun n hn => EvM.toD (evm_op evm_int (evm_var rfl) (.inl (rd_I ⟨(hN n hn).1, by have := (hN n hn).2; omega, by decide⟩))) rfl) (by omega)) (by rw [List.map_map]; rfl))) evms_nil) (.inl rc_sum)) (congrArg Dat.int (sum_bits hN hlt))) rfl ?_
  apply ex_setN
  · exact evn_callM (evms_cons (evm_var rfl) evms_nil) rfl (.mk hN)
  have srtS : srt S = S := same_rising (srt_lt S) hlt fun k => srt_mem
  have way : ∀ (ys : List Int), ys = S → P__law_way [.lst (ys.map Dat.int), .lst (S.map Dat.int)] (.dat (.bl true)) := fun ys e => by
    subst e
    have := P__law_way.mk (xs := ys) (ys := ys) (by omega)
    simpa using this
  apply ex_ifs (b := false)
  · exact evt_is (evt_not (evt_BM (evm_call (evms_cons (evm_own rfl) (evms_cons (evm_var rfl) evms_nil)) (.dat (way _ srtS))))) rfl
  · intro e; cases e
  intro _
  apply ex_seqN
  refine ex_appM rfl evm_int rfl (by rw [List.length_map, srtS]; omega) ?_
  have holdsC : ∀ (ns : List Int) (k : Int) (c : Bool), Nn ns → 0 ≤ k → decide (k ∈ ns) = c → P_holds [.int (bitsZ ns : Nat), .int k] (.dat (.bl c)) := fun ns k c h1 h2 e => e ▸ .mk ⟨h1, h2⟩
  have fl : ∀ d ∈ S.map Dat.int, d.flat = true := fun d hd => by
    obtain ⟨k, _, rfl⟩ := List.mem_map.mp hd
    rfl
  -- every number below 310
  refine ex_for1 (ds := fromto 0 310) (fun i ε => ∃ l w, ε = [.dat (.lst (xs.map Dat.int)), .dat (.lst (S.map Dat.int)), .dat (.int (bitsZ S : Nat)), w, l, .no, .no, .no, .no, .no]) (evw_rng1M (n := 310) (evms_cons evm_int evms_nil) (by decide)) ⟨.no, _, rfl⟩ ?_ ?_
  · rintro i d ε hd ⟨l, w, rfl⟩
    obtain ⟨hi, rfl⟩ := fromto_get hd
    apply ex_one
    apply ex_ifs (b := false)
    · refine evt_is (evt_not (evt_BM (evm_call (evms_cons (evm_call (evms_cons (evm_var rfl) (evms_cons (evm_var rfl) evms_nil)) (.dat (holdsC S (0 + (i : Int)) _ hN (by omega) rfl))) (evms_cons (evm_is (evm_op (evm_var rfl) (evm_var rfl) (.inl (rd_inL rfl fl))) (congrArg Dat.bl (inD_int _ _))) evms_nil)) (.dat .mk)))) ?_
      simp
    · intro e; cases e
    intro _
    exact ex_next ⟨_, _, rfl⟩
  rintro ε ⟨l, w, rfl⟩
  have a0 := Int.emod_nonneg (cell xs 30) (show (300 : Int) ≠ 0 by decide)
  have a1 := Int.emod_lt_of_pos (cell xs 30) (show (0 : Int) < 300 by decide)
  walk_at "set"
  generalize cell xs 30 % 300 = one at *
  refine ex_setM (evm_call (evms_cons (evm_var rfl) (evms_cons (evm_var rfl) evms_nil)) (.dat (.mk (by omega)))) rfl ?_
  have wayC : ∀ (ys zs : List Int), ys = zs → ys.length < 100 → P__law_way [.lst (ys.map Dat.int), .lst (zs.map Dat.int)] (.dat (.bl true)) := fun ys zs e hl => by
    subst e
    have := P__law_way.mk (xs := ys) (ys := ys) (by omega)
    simpa using this
  have lenS : ∀ k : Int, (srt (k :: S)).length < 70 := fun k => by
    show (insI k (srt S)).length < 70
    rw [srtS]
    have g : ∀ (x : Int) (l : List Int), (insI x l).length ≤ l.length + 1 := fun x l => by
      induction l with
      | nil => exact Nat.le_refl _
      | cons y l ih =>
        unfold insI
        split
        · simp
        · split
          · simp
          · simp only [List.length_cons]
            omega
    have := g k S
    omega
  have two : ∀ k : Int, srt (k :: S) = srt (S ++ [k]) := fun k => srt_ext fun j => by simp [or_comm]
  apply ex_ifs (b := false)
  · refine evt_is (evt_or (a := false) (b := false) (evt_is (evt_not (evt_BM (evm_call (evms_cons (evm_var rfl) evms_nil) (.dat .mk)))) rfl) fun _ =>
      evt_is (evt_not (evt_BM (evm_call (evms_cons (evm_call (evms_cons (evm_var rfl) evms_nil) (.new (.mk (hN.cons (by omega))))) (evms_cons (EvN.toM (evn_sortedSet (EvMs.toH (evms_cons (evm_is (EvN.toM (evn_opM (evm_var rfl) (evm_lst (evms_cons (evm_var rfl) evms_nil) (by simp)) rfl (rdn_add_lst (by rw [List.length_map]; show _ + 1 ≤ _; omega)))) ?_) evms_nil)) (by rw [List.length_append]; show _ + 1 < _; omega))) evms_nil))
        (.dat (wayC _ _ (two one) (by have := lenS one; omega)))))) rfl) rfl
    rw [List.map_append]
    rfl
  · intro e; cases e
  intro _
  apply ex_seqN
  have b0 := Int.emod_nonneg (cell xs 32) (show (300 : Int) ≠ 0 by decide)
  have b1 := Int.emod_lt_of_pos (cell xs 32) (show (0 : Int) < 300 by decide)
  have b2 := Int.emod_nonneg (cell xs 32) (show (1200 : Int) ≠ 0 by decide)
  have b3 := Int.emod_lt_of_pos (cell xs 32) (show (0 : Int) < 1200 by decide)
  walk_at "set"
  refine ex_cut (fun ε => ∃ near : Int, (0 ≤ near ∧ near < 1200) ∧ ε = [.dat (.lst (xs.map Dat.int)), .dat (.lst (S.map Dat.int)), .dat (.int (bitsZ S : Nat)), w, l, .dat (.int one), .dat (.int (bitsZ (one :: S) : Nat)), .dat (.int near), .no, .no]) ?_ ?_
  · apply ex_if
    · walk_at "evt"
    · intro _
      apply ex_one
      walk_at "set"
      exact ex_next ⟨_, ⟨b2, b3⟩, rfl⟩
    · intro _
      exact ex_next ⟨_, ⟨b0, by omega⟩, rfl⟩
  rintro ε ⟨near, hn, rfl⟩
  apply ex_ifs (b := false)
  · refine evt_is (evt_not (evt_BM (evm_call (evms_cons (evm_call (evms_cons (evm_call (evms_cons (evm_var rfl) (evms_cons (evm_var rfl) evms_nil)) (.dat (.mk (by omega)))) evms_nil) (.new (.mk (hN.cons (by omega))))) (evms_cons (EvN.toM (evn_sortedSet (EvMs.toH (evms_cons (evm_is (EvN.toM (evn_opM (evm_var rfl) (evm_lst (evms_cons (evm_var rfl) evms_nil) (by simp)) rfl (rdn_add_lst (by rw [List.length_map]; show _ + 1 ≤ _; omega)))) ?_) evms_nil)) (by rw [List.length_append]; show _ + 1 < _; omega))) evms_nil))
        (.dat (wayC _ _ (two near) (by have := lenS near; omega)))))) rfl
    rw [List.map_append]
    rfl
  · intro e; cases e
  intro _
  apply ex_seqN
  have c0 := Int.emod_nonneg (cell xs 31) (show (19999 : Int) ≠ 0 by decide)
  have c1 := Int.emod_lt_of_pos (cell xs 31) (show (0 : Int) < 19999 by decide)
  walk_at "set"
  generalize cell xs 31 % 19999 = far at *
  refine ex_setM (evm_call (evms_cons (evm_var rfl) (evms_cons (evm_var rfl) evms_nil)) (.dat (.mk (by omega)))) rfl ?_
  have hF : Nn (far :: S) := hN.cons (by omega)
  apply ex_ifs (b := false)
  · refine evt_is (evt_or (a := false) (b := false) (evt_is (evt_not (evt_BM (evm_call (evms_cons (evm_var rfl) evms_nil) (.dat .mk)))) rfl) fun _ =>
      evt_is (evt_testM (evm_op (evm_var rfl) (evm_op (evm_var rfl) (evm_op (evm_op evm_int (evm_var rfl) (.inl (rd_I ⟨c0, by omega, by decide⟩))) (evm_cb (evms_cons (evm_is (evm_op (evm_var rfl) (evm_var rfl) (.inl (rd_ninL rfl fl))) (congrArg (fun b => Dat.bl (!b)) (inD_int _ _))) evms_nil) (.inl rc_int_bl)) (.inl (rd_mulR (by split <;> decide)))) (.inl rd_add_int)) (.inl rd_ne_int))) ?_) rfl
    rw [most_is hN c0]
    simp
  · intro e; cases e
  intro _
  apply ex_seqN
  apply ex_ifs (b := false)
  · refine evt_is (evt_or (a := false) (b := false) (evt_is (evt_not (evt_BM (evm_call (evms_cons (evm_call (evms_cons (evm_var rfl) (evms_cons (evm_var rfl) evms_nil)) (.dat (holdsC S far _ hN c0 rfl))) (evms_cons (evm_is (evm_op (evm_var rfl) (evm_var rfl) (.inl (rd_inL rfl fl))) (congrArg Dat.bl (inD_int _ _))) evms_nil)) (.dat .mk)))) (by simp)) fun _ =>
      evt_is (evt_not (evt_BM (evm_call (evms_cons (evm_call (evms_cons (evm_var rfl) (evms_cons (evm_var rfl) evms_nil)) (.dat (holdsC (far :: S) far true hF c0 (by simp)))) (evms_cons evm_bl evms_nil)) (.dat .mk)))) rfl) rfl
  · intro e; cases e
  intro _
  apply ex_seqN
  have habs : (0 : Int) ≤ (if far - 1 < 0 then -(far - 1) else far - 1) := by split <;> omega
  -- its two neighbours
  refine ex_for1 (fun i ε => ∃ l, ε = [.dat (.lst (xs.map Dat.int)), .dat (.lst (S.map Dat.int)), .dat (.int (bitsZ S : Nat)), w, l, .dat (.int one), .dat (.int (bitsZ (one :: S) : Nat)), .dat (.int near), .dat (.int far), .dat (.int (bitsZ (far :: S) : Nat))])
    (evw_listM (evm_lst (evms_cons (evm_cb (evms_cons (evm_op (evm_var rfl) evm_int (.inl rd_I0)) evms_nil) (.inl rc_abs)) (evms_cons (evm_op (evm_var rfl) evm_int (.inl rd_add_int)) evms_nil)) (by simp)) rfl) ⟨_, rfl⟩ ?_ ?_
  · rintro i d ε hd ⟨l, rfl⟩
    obtain ⟨k, hk, rfl⟩ : ∃ k : Int, 0 ≤ k ∧ d = .int k := by
      have := List.mem_of_getElem? hd
      rcases List.mem_cons.mp this with rfl | this
      · exact ⟨_, habs, rfl⟩
      · rcases List.mem_cons.mp this with rfl | this
        · exact ⟨_, by omega, rfl⟩
        · cases this
    apply ex_one
    apply ex_ifs (b := false)
    · refine evt_is (evt_not (evt_BM (evm_call (evms_cons (evm_call (evms_cons (evm_var rfl) (evms_cons (evm_var rfl) evms_nil)) (.dat (holdsC (far :: S) k _ hF hk rfl))) (evms_cons (evm_or (evm_op (evm_var rfl) (evm_var rfl) (.inl rd_eq_int)) fun _ => evm_is (evm_op (evm_var rfl) (evm_var rfl) (.inl (rd_inL rfl fl))) (congrArg Dat.bl (inD_int _ _))) evms_nil)) (.dat .mk)))) ?_
      simp [List.mem_cons, Bool.decide_or, Bool.beq_eq_decide_eq]
    · intro e; cases e
    intro _
    exact ex_next ⟨_, rfl⟩
  rintro ε ⟨l2, rfl⟩
  have again : bitsZ (far :: far :: S) = bitsZ (far :: S) := bitsZ_ext (hF.cons (by omega)).nn hF.nn fun k => by simp
  refine ex_retM (evm_and (evm_op (evm_call (evms_cons (evm_var rfl) (evms_cons (evm_var rfl) evms_nil)) (.dat (.mk (by omega)))) (evm_var rfl) (.inl rd_eq_int)) fun _ => evm_call (evms_cons (evm_call (evms_cons (evm_var rfl) evms_nil) (.new (.mk hN))) (evms_cons (evm_var rfl) evms_nil)) (.dat (way _ srtS))) rfl ?_
  show Res.dat _ = Res.dat _
  rw [again]
  simp
theorem start_law : ∀ (w : World) (H : Hp) (a : Addr) (ns : List Int), ns.length ≤ 63 → (∀ z ∈ ns, Builtin.Int.intBits z ≤ 1048576) → Only H → SqL K H a (ns.map V.int) → spF K P_law [.ref a] H (fun v _ => v = .bl true) fun _ _ _ => False := fun w H a ns hl _ _ hS =>
  ⟨H, _, _, .refl _, .one (.lst hS .ofInts), .mk hl, fun v G' H' hr => by
    cases hr.2
    rfl⟩
theorem all_mk {l : PySem.W.OpenLaw} {w : World} {K : PySem.W.Frag} {h : Heap} {mg : Str → Option Value} {fa : Addr} (X : K.In h) (G : h.Ns mainGlobals mg) (hfa : mg "law" = some (.ref fa))
    {od0 an0 : Option Addr} {sl0 : Array (Option Value)} {oc0 kV0 dc0 pm0 cd0 ct0 : Value} {f0 : Addr}
    {od1 an1 : Option Addr} {sl1 : Array (Option Value)} {oc1 kV1 dc1 pm1 cd1 ct1 : Value} {f1 : Addr}
    {od2 an2 : Option Addr} {sl2 : Array (Option Value)} {oc2 kV2 dc2 pm2 cd2 ct2 : Value} {f2 : Addr}
    {od3 an3 : Option Addr} {sl3 : Array (Option Value)} {oc3 kV3 dc3 pm3 cd3 ct3 : Value} {f3 : Addr}
    {od4 an4 : Option Addr} {sl4 : Array (Option Value)} {oc4 kV4 dc4 pm4 cd4 ct4 : Value} {f4 : Addr}
    {od5 an5 : Option Addr} {sl5 : Array (Option Value)} {oc5 kV5 dc5 pm5 cd5 ct5 : Value} {f5 : Addr}
    {od6 an6 : Option Addr} {sl6 : Array (Option Value)} {oc6 kV6 dc6 pm6 cd6 ct6 : Value} {f6 : Addr}
    {od7 an7 : Option Addr} {sl7 : Array (Option Value)} {oc7 kV7 dc7 pm7 cd7 ct7 : Value} {f7 : Addr}
    {od8 an8 : Option Addr} {sl8 : Array (Option Value)} {oc8 kV8 dc8 pm8 cd8 ct8 : Value} {f8 : Addr}
    (a0 : PySem.W.nsIn K mainGlobals "added" = some (some (.ref f0)))
    (l0 : K.lookup f0 = some ⟨oc0, od0, .func (PySem.W.fnOf "added" "added" (defArgs S_added) (defBody S_added) (defScope S_added) .none kV0 dc0 pm0 an0 cd0 ct0), sl0⟩) (c0 : PySem.W.codeIn K cd0 "added" = true) (k0 : PySem.W.keepIn K (.ref f0) = true)
    (a1 : PySem.W.nsIn K mainGlobals "holds" = some (some (.ref f1)))
    (l1 : K.lookup f1 = some ⟨oc1, od1, .func (PySem.W.fnOf "holds" "holds" (defArgs S_holds) (defBody S_holds) (defScope S_holds) .none kV1 dc1 pm1 an1 cd1 ct1), sl1⟩) (c1 : PySem.W.codeIn K cd1 "holds" = true) (k1 : PySem.W.keepIn K (.ref f1) = true)
    (a2 : PySem.W.nsIn K mainGlobals "told" = some (some (.ref f2)))
    (l2 : K.lookup f2 = some ⟨oc2, od2, .func (PySem.W.fnOf "told" "told" (defArgs S_told) (defBody S_told) (defScope S_told) .none kV2 dc2 pm2 an2 cd2 ct2), sl2⟩) (c2 : PySem.W.codeIn K cd2 "told" = true) (k2 : PySem.W.keepIn K (.ref f2) = true)
    (a3 : PySem.W.nsIn K mainGlobals "_law_cell" = some (some (.ref f3)))
    (l3 : K.lookup f3 = some ⟨oc3, od3, .func (PySem.W.fnOf "_law_cell" "_law_cell" (defArgs S__law_cell) (defBody S__law_cell) (defScope S__law_cell) .none kV3 dc3 pm3 an3 cd3 ct3), sl3⟩) (c3 : PySem.W.codeIn K cd3 "_law_cell" = true) (k3 : PySem.W.keepIn K (.ref f3) = true)
    (a4 : PySem.W.nsIn K mainGlobals "_law_whole" = some (some (.ref f4)))
    (l4 : K.lookup f4 = some ⟨oc4, od4, .func (PySem.W.fnOf "_law_whole" "_law_whole" (defArgs S__law_whole) (defBody S__law_whole) (defScope S__law_whole) .none kV4 dc4 pm4 an4 cd4 ct4), sl4⟩) (c4 : PySem.W.codeIn K cd4 "_law_whole" = true) (k4 : PySem.W.keepIn K (.ref f4) = true)
    (a5 : PySem.W.nsIn K mainGlobals "_law_numbers" = some (some (.ref f5)))
    (l5 : K.lookup f5 = some ⟨oc5, od5, .func (PySem.W.fnOf "_law_numbers" "_law_numbers" (defArgs S__law_numbers) (defBody S__law_numbers) (defScope S__law_numbers) .none kV5 dc5 pm5 an5 cd5 ct5), sl5⟩) (c5 : PySem.W.codeIn K cd5 "_law_numbers" = true) (k5 : PySem.W.keepIn K (.ref f5) = true)
    (a6 : PySem.W.nsIn K mainGlobals "_law_is" = some (some (.ref f6)))
    (l6 : K.lookup f6 = some ⟨oc6, od6, .func (PySem.W.fnOf "_law_is" "_law_is" (defArgs S__law_is) (defBody S__law_is) (defScope S__law_is) .none kV6 dc6 pm6 an6 cd6 ct6), sl6⟩) (c6 : PySem.W.codeIn K cd6 "_law_is" = true) (k6 : PySem.W.keepIn K (.ref f6) = true)
    (a7 : PySem.W.nsIn K mainGlobals "_law_way" = some (some (.ref f7)))
    (l7 : K.lookup f7 = some ⟨oc7, od7, .func (PySem.W.fnOf "_law_way" "_law_way" (defArgs S__law_way) (defBody S__law_way) (defScope S__law_way) .none kV7 dc7 pm7 an7 cd7 ct7), sl7⟩) (c7 : PySem.W.codeIn K cd7 "_law_way" = true) (k7 : PySem.W.keepIn K (.ref f7) = true)
    (a8 : PySem.W.nsIn K mainGlobals "law" = some (some (.ref f8)))
    (l8 : K.lookup f8 = some ⟨oc8, od8, .func (PySem.W.fnOf "law" "law" (defArgs S_law) (defBody S_law) (defScope S_law) .none kV8 dc8 pm8 an8 cd8 ct8), sl8⟩) (c8 : PySem.W.codeIn K cd8 "law" = true) (k8 : PySem.W.keepIn K (.ref f8) = true)
    (z_abs : PySem.W.nsIn K mainGlobals "abs" = some none)
    (z_all : PySem.W.nsIn K mainGlobals "all" = some none)
    (z_bool : PySem.W.nsIn K mainGlobals "bool" = some none)
    (z_int : PySem.W.nsIn K mainGlobals "int" = some none)
    (z_isinstance : PySem.W.nsIn K mainGlobals "isinstance" = some none)
    (z_len : PySem.W.nsIn K mainGlobals "len" = some none)
    (z_list : PySem.W.nsIn K mainGlobals "list" = some none)
    (z_range : PySem.W.nsIn K mainGlobals "range" = some none)
    (z_set : PySem.W.nsIn K mainGlobals "set" = some none)
    (z_sorted : PySem.W.nsIn K mainGlobals "sorted" = some none)
    (z_sum : PySem.W.nsIn K mainGlobals "sum" = some none) :
    ∃ fd : FuncData, (∀ (s : Shared) (v : Value), BindsTo s fd ⟨[v], []⟩ [("_law_script", v)]) ∧ ∀ base : Heap, K.In base → base.Ns mainGlobals mg → FnOk l.prog w K mg base CX0 4 fa fd ["_law_script"] (spF K P_law) := by
  have e : f8 = fa := by
    have q := hfa.symm.trans (PySem.W.mg_of X G a8)
    cases q
    rfl
  have T : { T : Tx K mg // T.a_law = f8 ∧ T.d_law = PySem.W.fnOf "law" "law" (defArgs S_law) (defBody S_law) (defScope S_law) .none kV8 dc8 pm8 an8 cd8 ct8 } := ⟨{
    a_added := f0, d_added := PySem.W.fnOf "added" "added" (defArgs S_added) (defBody S_added) (defScope S_added) .none kV0 dc0 pm0 an0 cd0 ct0, F_added := fun_mk l0 c0 k0,
    b_added := (fun_mk (st := S_added) l0 c0 k0).binds (ps := ["bits", "number"]) fun _ _ _ _ _ _ us hl => match us, hl with | [_, _], _ => rfl,
    g_added := PySem.W.mg_of X G a0,
    a_holds := f1, d_holds := PySem.W.fnOf "holds" "holds" (defArgs S_holds) (defBody S_holds) (defScope S_holds) .none kV1 dc1 pm1 an1 cd1 ct1, F_holds := fun_mk l1 c1 k1,
    b_holds := (fun_mk (st := S_holds) l1 c1 k1).binds (ps := ["bits", "number"]) fun _ _ _ _ _ _ us hl => match us, hl with | [_, _], _ => rfl,
    g_holds := PySem.W.mg_of X G a1,
    a_told := f2, d_told := PySem.W.fnOf "told" "told" (defArgs S_told) (defBody S_told) (defScope S_told) .none kV2 dc2 pm2 an2 cd2 ct2, F_told := fun_mk l2 c2 k2,
    b_told := (fun_mk (st := S_told) l2 c2 k2).binds (ps := ["bits"]) fun _ _ _ _ _ _ us hl => match us, hl with | [_], _ => rfl,
    g_told := PySem.W.mg_of X G a2,
    a__law_cell := f3, d__law_cell := PySem.W.fnOf "_law_cell" "_law_cell" (defArgs S__law_cell) (defBody S__law_cell) (defScope S__law_cell) .none kV3 dc3 pm3 an3 cd3 ct3, F__law_cell := fun_mk l3 c3 k3,
    b__law_cell := (fun_mk (st := S__law_cell) l3 c3 k3).binds (ps := ["_law_script", "_law_k"]) fun _ _ _ _ _ _ us hl => match us, hl with | [_, _], _ => rfl,
    g__law_cell := PySem.W.mg_of X G a3,
    a__law_whole := f4, d__law_whole := PySem.W.fnOf "_law_whole" "_law_whole" (defArgs S__law_whole) (defBody S__law_whole) (defScope S__law_whole) .none kV4 dc4 pm4 an4 cd4 ct4, F__law_whole := fun_mk l4 c4 k4,
    b__law_whole := (fun_mk (st := S__law_whole) l4 c4 k4).binds (ps := ["_law_found"]) fun _ _ _ _ _ _ us hl => match us, hl with | [_], _ => rfl,
    g__law_whole := PySem.W.mg_of X G a4,
    a__law_numbers := f5, d__law_numbers := PySem.W.fnOf "_law_numbers" "_law_numbers" (defArgs S__law_numbers) (defBody S__law_numbers) (defScope S__law_numbers) .none kV5 dc5 pm5 an5 cd5 ct5, F__law_numbers := fun_mk l5 c5 k5,
    b__law_numbers := (fun_mk (st := S__law_numbers) l5 c5 k5).binds (ps := ["_law_script"]) fun _ _ _ _ _ _ us hl => match us, hl with | [_], _ => rfl,
    g__law_numbers := PySem.W.mg_of X G a5,
    a__law_is := f6, d__law_is := PySem.W.fnOf "_law_is" "_law_is" (defArgs S__law_is) (defBody S__law_is) (defScope S__law_is) .none kV6 dc6 pm6 an6 cd6 ct6, F__law_is := fun_mk l6 c6 k6,
    b__law_is := (fun_mk (st := S__law_is) l6 c6 k6).binds (ps := ["_law_found", "_law_due"]) fun _ _ _ _ _ _ us hl => match us, hl with | [_, _], _ => rfl,
    g__law_is := PySem.W.mg_of X G a6,
    a__law_way := f7, d__law_way := PySem.W.fnOf "_law_way" "_law_way" (defArgs S__law_way) (defBody S__law_way) (defScope S__law_way) .none kV7 dc7 pm7 an7 cd7 ct7, F__law_way := fun_mk l7 c7 k7,
    b__law_way := (fun_mk (st := S__law_way) l7 c7 k7).binds (ps := ["_law_found", "_law_due"]) fun _ _ _ _ _ _ us hl => match us, hl with | [_, _], _ => rfl,
    g__law_way := PySem.W.mg_of X G a7,
    a_law := f8, d_law := PySem.W.fnOf "law" "law" (defArgs S_law) (defBody S_law) (defScope S_law) .none kV8 dc8 pm8 an8 cd8 ct8, F_law := fun_mk l8 c8 k8,
    b_law := (fun_mk (st := S_law) l8 c8 k8).binds (ps := ["_law_script"]) fun _ _ _ _ _ _ us hl => match us, hl with | [_], _ => rfl,
    g_law := PySem.W.mg_of X G a8,
    n_abs := PySem.W.mg_none_of X G z_abs,
    n_all := PySem.W.mg_none_of X G z_all,
    n_bool := PySem.W.mg_none_of X G z_bool,
    n_int := PySem.W.mg_none_of X G z_int,
    n_isinstance := PySem.W.mg_none_of X G z_isinstance,
    n_len := PySem.W.mg_none_of X G z_len,
    n_list := PySem.W.mg_none_of X G z_list,
    n_range := PySem.W.mg_none_of X G z_range,
    n_set := PySem.W.mg_none_of X G z_set,
    n_sorted := PySem.W.mg_none_of X G z_sorted,
    n_sum := PySem.W.mg_none_of X G z_sum }, rfl, rfl⟩
  obtain ⟨T, e1, e2⟩ := T
  refine ⟨T.d_law, fun s v => e2 ▸ .of_eq rfl, fun base _ _ => ?_⟩
  rw [← e, ← e1]
  exact ok_law T
end
end K21
open PySem PySem.W PyProof.Rows
set_option maxRecDepth 100000 in
set_option maxHeartbeats 0 in
theorem PySem.Challenge.cw_macrohouse_k21_numbers_of_sets_holds : PySem.Challenge.rw_macrohouse_k21_numbers_of_sets.Holds := by
  w_on; o_law; k_head; (case hw => w_witness2)
  k_fill
  refine L2.walk_ofB (l := PySem.Challenge.rw_macrohouse_k21_numbers_of_sets) (n := 63) (k := 4) (x := "_law_script") (CX := fun _ => L2.CX0) (sp := fun w => Pu.spF _ K21.P_law) rfl (by decide) rfl ⟨rfl, by decide, by decide⟩ (fun w h Y => PySem.W.kIn_of Y) ?F (fun w H a ns hl hb hO hS => K21.start_law w H a ns hl hb hO hS) (fun _ _ _ _ _ h => h)
  case F =>
    intro w mg fa h KX G hmg
    refine' K21.all_mk KX G hmg ?a0 ?l0 ?c0 ?k0 ?a1 ?l1 ?c1 ?k1 ?a2 ?l2 ?c2 ?k2 ?a3 ?l3 ?c3 ?k3 ?a4 ?l4 ?c4 ?k4 ?a5 ?l5 ?c5 ?k5 ?a6 ?l6 ?c6 ?k6 ?a7 ?l7 ?c7 ?k7 ?a8 ?l8 ?c8 ?k8 ?z_abs ?z_all ?z_bool ?z_int ?z_isinstance ?z_len ?z_list ?z_range ?z_set ?z_sorted ?z_sum
    (case a0 => k_is)
    (case l0 => k_is)
    (case c0 => k_is)
    (case k0 => k_is)
    (case a1 => k_is)
    (case l1 => k_is)
    (case c1 => k_is)
    (case k1 => k_is)
    (case a2 => k_is)
    (case l2 => k_is)
    (case c2 => k_is)
    (case k2 => k_is)
    (case a3 => k_is)
    (case l3 => k_is)
    (case c3 => k_is)
    (case k3 => k_is)
    (case a4 => k_is)
    (case l4 => k_is)
    (case c4 => k_is)
    (case k4 => k_is)
    (case a5 => k_is)
    (case l5 => k_is)
    (case c5 => k_is)
    (case k5 => k_is)
    (case a6 => k_is)
    (case l6 => k_is)
    (case c6 => k_is)
    (case k6 => k_is)
    (case a7 => k_is)
    (case l7 => k_is)
    (case c7 => k_is)
    (case k7 => k_is)
    (case a8 => k_is)
    (case l8 => k_is)
    (case c8 => k_is)
    (case k8 => k_is)
    (case z_abs => k_is)
    (case z_all => k_is)
    (case z_bool => k_is)
    (case z_int => k_is)
    (case z_isinstance => k_is)
    (case z_len => k_is)
    (case z_list => k_is)
    (case z_range => k_is)
    (case z_set => k_is)
    (case z_sorted => k_is)
    (case z_sum => k_is)
