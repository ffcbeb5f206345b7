import PyProof.Rows.All
import Wide.All
import OpenK.AllK
import Wide.FinOn
import HandS.ForMost
import HandS.IsInst
import HandS.Wide
import HandS.WideBits
import HandS.Defaults
import HandS.TupAny
import HandS.Zip
import HandS.More
import HandS.Rev
import HandS.Style
import HandS.EndBits
import PySem.Challenge.RW_macrohouse_k65_whole_more_fuel
set_option Elab.async false
set_option linter.all false
set_option maxRecDepth 100000
set_option maxHeartbeats 4000000
set_option autoImplicit false
namespace Pu
open PySem PySem.Spec PyProof.Rows L2

/-! ### data without addresses -/
inductive Dat where
  | non
  | bl (b : Bool)
  | int (i : Int)
  | str (x : Str)
  | tup (xs : List Dat)
  | lst (xs : List Dat)
  | ins (C : Addr) (ks : List Str) (vs : List Dat)
  | dic (ks : List Key) (vs : List Dat)
  | dit (ks : List (List Key)) (vs : List Dat)
  | ty (n : String)
  | cls (C : Addr)

mutual
/-- in the standing part G the value v is the datum -/
inductive R (K : PySem.W.Frag) (G : Hp) : V → Dat → Prop
  | non : R K G .non .non
  | bl (b : Bool) : R K G (.bl b) (.bl b)
  | int (i : Int) : R K G (.int i) (.int i)
  | str (x : Str) : R K G (.str x) (.str x)
  | tup {a : Addr} {xs : List V} {ds : List Dat} : G a = some (.tup xs) → RL K G xs ds → R K G (.ref a) (.tup ds)
  | lst {a : Addr} {xs : List V} {ds : List Dat} : SqL K G a xs → RL K G xs ds → R K G (.ref a) (.lst ds)
  | ins {a C dx : Addr} {fs : List (Str × V)} {ds : List Dat} : G a = some (.ins C dx fs) → RL K G (fs.map (·.2)) ds → R K G (.ref a) (.ins C (fs.map (·.1)) ds)
  | dic {a : Addr} {kvs : List (Key × V)} {ds : List Dat} : G a = some (.dK kvs) → RL K G (kvs.map (·.2)) ds → R K G (.ref a) (.dic (kvs.map (·.1)) ds)
  | dit {a : Addr} {kvs : List (List Key × V)} {ds : List Dat} : G a = some (.dT kvs) → RL K G (kvs.map (·.2)) ds → R K G (.ref a) (.dit (kvs.map (·.1)) ds)
  | ty (n : String) : R K G (.ty n) (.ty n)
  | cls (C : Addr) : R K G (.ref C) (.cls C)
inductive RL (K : PySem.W.Frag) (G : Hp) : List V → List Dat → Prop
  | nil : RL K G [] []
  | cons {v : V} {d : Dat} {vs : List V} {ds : List Dat} : R K G v d → RL K G vs ds → RL K G (v :: vs) (d :: ds)
end

theorem sameR {H H' : Hp} {a : Addr} {u : HO} (e : Same H H') (h : Rd H a u) : Rd H' a u := by
  rcases h with h | ⟨o, h⟩
  · exact .inl (e _ _ h)
  · exact .inr ⟨o, e _ _ h⟩
theorem sameT {K : PySem.W.Frag} {H H' : Hp} {a : Addr} {xs : List V} (e : Same H H') (h : SqT K H a xs) : SqT K H' a xs := by
  rcases h with (h | ⟨o, h⟩) | h
  · exact .inl (.inl (e _ _ h))
  · exact .inl (.inr ⟨o, e _ _ h⟩)
  · exact .inr h
section
variable {K : PySem.W.Frag} {G G' : Hp}
mutual
theorem R.mono (e : Same G G') : ∀ (d : Dat) (v : V), R K G v d → R K G' v d
  | .non, _, h => by cases h; exact .non
  | .bl b, _, h => by cases h; exact .bl b
  | .int i, _, h => by cases h; exact .int i
  | .str x, _, h => by cases h; exact .str x
  | .tup ds, _, h => by
    cases h with
    | tup q r => exact .tup (e _ _ q) (RL.mono e ds _ r)
  | .lst ds, _, h => by
    cases h with
    | lst q r => exact .lst (e.seq q) (RL.mono e ds _ r)
  | .ins C ks ds, _, h => by
    cases h with
    | ins q r => exact .ins (e _ _ q) (RL.mono e ds _ r)
  | .dic ks ds, _, h => by
    cases h with
    | dic q r => exact .dic (e _ _ q) (RL.mono e ds _ r)
  | .dit ks ds, _, h => by
    cases h with
    | dit q r => exact .dit (e _ _ q) (RL.mono e ds _ r)
  | .ty n, _, h => by cases h; exact .ty n
  | .cls C, _, h => by cases h; exact .cls C
theorem RL.mono (e : Same G G') : ∀ (ds : List Dat) (vs : List V), RL K G vs ds → RL K G' vs ds
  | [], _, h => by cases h; exact .nil
  | d :: ds, _, h => by
    cases h with
    | cons q r => exact .cons (R.mono e d _ q) (RL.mono e ds _ r)
end
end
theorem R.up {K : PySem.W.Frag} {G G' : Hp} {v : V} {d : Dat} (h : R K G v d) (e : Same G G') : R K G' v d := R.mono e d v h
theorem RL.up {K : PySem.W.Frag} {G G' : Hp} {vs : List V} {ds : List Dat} (h : RL K G vs ds) (e : Same G G') : RL K G' vs ds := RL.mono e ds vs h
section
variable {K : PySem.W.Frag} {G : Hp}
theorem RL.len : ∀ {vs : List V} {ds : List Dat}, RL K G vs ds → vs.length = ds.length
  | [], _, h => by cases h; rfl
  | _ :: vs, _, h => by
    cases h with
    | cons _ r => simp [RL.len r]
theorem RL.get : ∀ {vs : List V} {ds : List Dat} {i : Nat} {v : V}, RL K G vs ds → vs[i]? = some v → ∃ d, ds[i]? = some d ∧ R K G v d
  | [], _, _, _, h, e => by simp at e
  | _ :: vs, _, 0, _, h, e => by
    cases h with
    | cons q r => simp at e; subst e; exact ⟨_, rfl, q⟩
  | _ :: vs, _, i + 1, _, h, e => by
    cases h with
    | cons q r =>
      obtain ⟨d, e1, q1⟩ := RL.get (i := i) r (by simpa using e)
      exact ⟨d, by simpa using e1, q1⟩
theorem RL.getD {vs : List V} {ds : List Dat} {i : Nat} {d : Dat} (h : RL K G vs ds) (e : ds[i]? = some d) : ∃ v, vs[i]? = some v ∧ R K G v d := by
  obtain ⟨hi, _⟩ := List.getElem?_eq_some_iff.mp e
  have hv : vs[i]? = some (vs[i]'(by rw [h.len]; exact hi)) := List.getElem?_eq_getElem _
  obtain ⟨d', e', r⟩ := h.get hv
  rw [e] at e'
  cases e'
  exact ⟨_, hv, r⟩
theorem RL.app : ∀ {vs ws : List V} {ds es : List Dat}, RL K G vs ds → RL K G ws es → RL K G (vs ++ ws) (ds ++ es)
  | [], _, _, _, h, g => by cases h; exact g
  | _ :: vs, _, _, _, h, g => by
    cases h with
    | cons q r => exact .cons q (RL.app r g)
theorem RL.one {v : V} {d : Dat} (h : R K G v d) : RL K G [v] [d] := .cons h .nil
theorem RL.take : ∀ {vs : List V} {ds : List Dat} (n : Nat), RL K G vs ds → RL K G (vs.take n) (ds.take n)
  | [], _, n, h => by cases h; simp; exact .nil
  | _ :: vs, _, 0, h => by simp; exact .nil
  | _ :: vs, _, n + 1, h => by
    cases h with
    | cons q r => exact .cons q (RL.take n r)
theorem RL.drop : ∀ {vs : List V} {ds : List Dat} (n : Nat), RL K G vs ds → RL K G (vs.drop n) (ds.drop n)
  | [], _, n, h => by cases h; simp; exact .nil
  | _ :: vs, _, 0, h => h
  | _ :: vs, _, n + 1, h => by
    cases h with
    | cons q r => exact RL.drop n r
theorem RL.rev : ∀ {vs : List V} {ds : List Dat}, RL K G vs ds → RL K G vs.reverse ds.reverse
  | [], _, h => by cases h; exact .nil
  | _ :: vs, _, h => by
    cases h with
    | cons q r =>
      rw [List.reverse_cons, List.reverse_cons]
      exact RL.app (RL.rev r) (.one q)
theorem RL.set {v : V} {d : Dat} (q : R K G v d) : ∀ {vs : List V} {ds : List Dat} (i : Nat), RL K G vs ds → RL K G (vs.set i v) (ds.set i d)
  | [], _, _, h => by cases h; exact .nil
  | _ :: vs, _, 0, h => by
    cases h with
    | cons _ r => exact .cons q r
  | _ :: vs, _, i + 1, h => by
    cases h with
    | cons p r => exact .cons p (RL.set q i r)
theorem RL.none_of {vs : List V} {ds : List Dat} {i : Nat} (h : RL K G vs ds) (e : ds[i]? = none) : vs[i]? = none := by
  have := h.len
  rw [List.getElem?_eq_none_iff] at e ⊢
  omega
/-- ints, texts, truths -/
theorem RL.ints : ∀ {vs : List V} {ns : List Int}, RL K G vs (ns.map Dat.int) → vs = ns.map V.int
  | [], [], h => rfl
  | [], _ :: _, h => by cases h
  | _ :: _, [], h => by cases h
  | _ :: vs, n :: ns, h => by
    cases h with
    | cons q r => cases q; rw [RL.ints r]; rfl
theorem RL.ofInts : ∀ {ns : List Int}, RL K G (ns.map V.int) (ns.map Dat.int)
  | [] => .nil
  | n :: ns => .cons (.int n) RL.ofInts
theorem RL.strs : ∀ {vs : List V} {ns : List Str}, RL K G vs (ns.map Dat.str) → vs = ns.map V.str
  | [], [], h => rfl
  | [], _ :: _, h => by cases h
  | _ :: _, [], h => by cases h
  | _ :: vs, n :: ns, h => by
    cases h with
    | cons q r => cases q; rw [RL.strs r]; rfl
theorem RL.ofStrs : ∀ {ns : List Str}, RL K G (ns.map V.str) (ns.map Dat.str)
  | [] => .nil
  | n :: ns => .cons (.str n) RL.ofStrs
theorem RL.bls : ∀ {vs : List V} {ns : List Bool}, RL K G vs (ns.map Dat.bl) → vs = ns.map V.bl
  | [], [], h => rfl
  | [], _ :: _, h => by cases h
  | _ :: _, [], h => by cases h
  | _ :: vs, n :: ns, h => by
    cases h with
    | cons q r => cases q; rw [RL.bls r]; rfl
end

/-! ### the standing part G within the heap H, as they grow -/
structure Up (G H G' H' : Hp) : Prop where
  g : Same G G'
  h : Same H H'
  le : Same G' H'
  new : ∀ b, G b = none → H b ≠ none → G' b = none
theorem Up.refl {G H : Hp} (e : Same G H) : Up G H G H := ⟨.refl _, .refl _, e, fun _ h _ => h⟩
theorem Up.trans {G H G1 H1 G2 H2 : Hp} (a : Up G H G1 H1) (b : Up G1 H1 G2 H2) : Up G H G2 H2 :=
  ⟨a.g.trans b.g, a.h.trans b.h, b.le, fun c n m => b.new c (a.new c n m) fun z => m (a.h.free z)⟩
theorem same_upd {H : Hp} {p : Addr} {o : HO} (h : H p = none) : Same H (upd H p o) := fun b x e => by
  rw [upd_ne (ne_of_none e h)]
  exact e
/-- a new object that stands from now on -/
theorem Up.lay {G H : Hp} {p : Addr} {o : HO} (e : Same G H) (h : H p = none) : Up G H (upd G p o) (upd H p o) := by
  have hg : G p = none := e.free h
  refine ⟨same_upd hg, same_upd h, fun b x q => ?_, fun b n m => ?_⟩
  · by_cases hb : b = p
    · subst hb
      rw [upd_same] at q ⊢
      exact q
    · rw [upd_ne hb] at q ⊢
      exact e _ _ q
  · have hb : b ≠ p := fun z => m (by rw [z]; exact h)
    rw [upd_ne hb]
    exact n
/-- a new object that is still to change -/
theorem Up.own {G H : Hp} {p : Addr} {o : HO} (e : Same G H) (h : H p = none) : Up G H G (upd H p o) :=
  ⟨.refl _, same_upd h, e.trans (same_upd h), fun _ n _ => n⟩
/-- one that was new at G0, H0 stands from now on -/
theorem Up.freeze {G0 H0 G H : Hp} {p : Addr} {o : HO} (u : Up G0 H0 G H) (hp : H p = some o) (hg : G p = none) (h0 : H0 p = none) : Up G0 H0 (upd G p o) H := by
  refine ⟨fun b x q => ?_, u.h, fun b x q => ?_, fun b n m => ?_⟩
  · have hb : b ≠ p := ne_of_none (u.g _ _ q) hg
    rw [upd_ne hb]
    exact u.g _ _ q
  · by_cases hb : b = p
    · subst hb
      rw [upd_same] at q
      cases q
      exact hp
    · rw [upd_ne hb] at q
      exact u.le _ _ q
  · have hb : b ≠ p := fun z => m (by rw [z]; exact h0)
    rw [upd_ne hb]
    exact u.new b n m
/-- an object outside the standing part, new at G0, H0, changes -/
theorem Up.write {G0 H0 G H : Hp} {p : Addr} {o : HO} (u : Up G0 H0 G H) (hg : G p = none) (h0 : H0 p = none) : Up G0 H0 G (upd H p o) := by
  refine ⟨u.g, fun b x q => ?_, fun b x q => ?_, u.new⟩
  · have hb : b ≠ p := ne_of_none q h0
    rw [upd_ne hb]
    exact u.h _ _ q
  · have hb : b ≠ p := ne_of_none q hg
    rw [upd_ne hb]
    exact u.le _ _ q

/-! ### slots, and cells that several may hold -/
inductive Sl where
  | no
  | dat (d : Dat)
  /-- a list that is ours alone -/
  | own (ds : List Dat)
  /-- a dict that is ours alone -/
  | ownD (ks : List Key) (ds : List Dat)
  /-- a cell, by its number -/
  | loc (l : Nat)
inductive Vl where
  | dat (d : Dat)
  | loc (l : Nat)
def Vl.sl : Vl → Sl
  | .dat d => .dat d
  | .loc l => .loc l
inductive Cell where
  | junk
  | lst (xs : List Vl)
  | dic (kvs : List (Key × Vl))
  | ins (C : Addr) (fs : List (Str × Vl))
/-- slots of names, and cells -/
structure Sta where
  sl : List Sl
  om : List Cell
/-- what stood ahead, and where the cells lie -/
structure Gh where
  g : Hp
  a : List Addr
instance : GetElem? Sta Nat Sl (fun e i => i < e.sl.length) where
  getElem e i h := e.sl[i]
  getElem? e i := e.sl[i]?
def Sta.set (e : Sta) (i : Nat) (x : Sl) : Sta := ⟨e.sl.set i x, e.om⟩
/-- a cell changes, a new cell -/
def Sta.put (e : Sta) (l : Nat) (c : Cell) : Sta := ⟨e.sl, e.om.set l c⟩
def Sta.push (e : Sta) (c : Cell) : Sta := ⟨e.sl, e.om ++ [c]⟩
theorem Sta.get_sl (e : Sta) (i : Nat) : e[i]? = e.sl[i]? := rfl
theorem Sta.lt {e : Sta} {i : Nat} {x : Sl} (h : e[i]? = some x) : i < e.sl.length := (List.getElem?_eq_some_iff.mp (show e.sl[i]? = some x from h)).1
theorem Sta.set_self {e : Sta} {i : Nat} {x : Sl} (h : i < e.sl.length) : (e.set i x)[i]? = some x := List.getElem?_set_self h
theorem Sta.set_ne {e : Sta} {i j : Nat} {x : Sl} (h : i ≠ j) : (e.set i x)[j]? = e[j]? := List.getElem?_set_ne h
theorem Sta.set_len {e : Sta} {i : Nat} {x : Sl} : (e.set i x).sl.length = e.sl.length := List.length_set
theorem Sta.set_set {e : Sta} {i : Nat} {x y : Sl} : (e.set i x).set i y = e.set i y := by
  show Sta.mk _ _ = Sta.mk _ _
  rw [show ((e.set i x).sl.set i y) = e.sl.set i y from List.set_set ..]
  rfl
theorem Sta.set_out {e : Sta} {i : Nat} {x : Sl} (h : e.sl.length ≤ i) : e.set i x = e := by
  show Sta.mk _ _ = e
  rw [List.set_eq_of_length_le h]
theorem Sta.nil {ω : List Cell} {i : Nat} {x : Sl} {γ : Prop} (h : (Sta.mk [] ω)[i]? = some x) : γ := by
  have h : ([] : List Sl)[i]? = some x := h
  simp at h
/-- what is asked of a slot, that is another one's or is stored -/
theorem Sta.of_set {e : Sta} {i j : Nat} {x y : Sl} (h : (e.set i x)[j]? = some y) : (j = i ∧ y = x ∧ i < e.sl.length) ∨ (j ≠ i ∧ e[j]? = some y) := by
  by_cases hi : i = j
  · subst hi
    have hlt : i < e.sl.length := by
      have := Sta.lt h
      rwa [Sta.set_len] at this
    rw [Sta.set_self hlt] at h
    cases h
    exact .inl ⟨rfl, rfl, hlt⟩
  · rw [Sta.set_ne hi] at h
    exact .inr ⟨Ne.symm hi, h⟩

theorem ne_off {γ : Type} {b p : γ} {l : List γ} (hb : b ∈ l) (hp : p ∉ l) : b ≠ p := fun z => hp (z ▸ hb)
/-- what stands at slot i -/
def SlOk (K : PySem.W.Frag) (H0 G H : Hp) (v : Option V) : Sl → Prop
  | .no => True
  | .dat d => ∃ u, v = some u ∧ R K G u d
  | .own ds => ∃ p xs, v = some (.ref p) ∧ H p = some (.lst xs) ∧ G p = none ∧ H0 p = none ∧ RL K G xs ds
  | .ownD ks ds => ∃ p kvs, v = some (.ref p) ∧ H p = some (.dK kvs) ∧ G p = none ∧ H0 p = none ∧ ks = kvs.map (·.1) ∧ RL K G (kvs.map (·.2)) ds
  | .loc l => True
def Sl.mine : Sl → Bool
  | .own _ => true
  | .ownD _ _ => true
  | _ => false
def VlOk (K : PySem.W.Frag) (α : List Addr) (G : Hp) (v : V) : Vl → Prop
  | .dat d => R K G v d
  | .loc l => ∃ a, α[l]? = some a ∧ v = .ref a
inductive VlsOk (K : PySem.W.Frag) (α : List Addr) (G : Hp) : List V → List Vl → Prop
  | nil : VlsOk K α G [] []
  | cons {v : V} {x : Vl} {vs : List V} {xs : List Vl} : VlOk K α G v x → VlsOk K α G vs xs → VlsOk K α G (v :: vs) (x :: xs)
inductive PsOk {κ : Type} (K : PySem.W.Frag) (α : List Addr) (G : Hp) : List (κ × V) → List (κ × Vl) → Prop
  | nil : PsOk K α G [] []
  | cons {k : κ} {v : V} {x : Vl} {vs : List (κ × V)} {xs : List (κ × Vl)} : VlOk K α G v x → PsOk K α G vs xs → PsOk K α G ((k, v) :: vs) ((k, x) :: xs)
def CellOk (K : PySem.W.Frag) (α : List Addr) (G H : Hp) (a : Addr) : Cell → Prop
  | .junk => True
  | .lst xs => ∃ vs, H a = some (.lst vs) ∧ VlsOk K α G vs xs
  | .dic xs => ∃ kvs, H a = some (.dK kvs) ∧ PsOk K α G kvs xs
  | .ins C xs => ∃ dx kvs, H a = some (.ins C dx kvs) ∧ PsOk K α G kvs xs
structure Al (K : PySem.W.Frag) (α : List Addr) (H0 : Hp) (ε : Sta) (σ : L2.St) (G H : Hp) : Prop where
  len : α.length = ε.om.length
  nd : α.Nodup
  cell : ∀ (l : Nat) (a : Addr), α[l]? = some a → G a = none ∧ H0 a = none ∧ H a ≠ none ∧ ∀ c, ε.om[l]? = some c → CellOk K α G H a c
  loc : ∀ (i l : Nat), ε[i]? = some (.loc l) → ∃ a, α[l]? = some a ∧ σ[i]? = some (some (.ref a))
  own : ∀ (i : Nat) (e : Sl) (p : Addr), ε[i]? = some e → e.mine = true → σ[i]? = some (some (.ref p)) → p ∉ α
structure Ok (K : PySem.W.Frag) (G0 : Gh) (H0 : Hp) (ε : Sta) (σ : L2.St) (G H : Hp) : Prop where
  up : Up G0.g H0 G H
  get : ∀ (i : Nat) (e : Sl), ε[i]? = some e → ∃ v, σ[i]? = some v ∧ SlOk K H0 G H v e
  ne : ∀ (i j : Nat) (e f : Sl) (p : Addr), i ≠ j → ε[i]? = some e → ε[j]? = some f → e.mine = true → f.mine = true → σ[i]? = some (some (.ref p)) → σ[j]? ≠ some (some (.ref p))
  len : σ.length = ε.sl.length
  al : Al K G0.a H0 ε σ G H

theorem VlOk.up {K : PySem.W.Frag} {α : List Addr} {G G' : Hp} {v : V} {x : Vl} (h : VlOk K α G v x) (e : Same G G') : VlOk K α G' v x := by
  cases x with
  | dat d => exact R.up h e
  | loc l => exact h
theorem VlsOk.up {K : PySem.W.Frag} {α : List Addr} {G G' : Hp} {vs : List V} {xs : List Vl} (h : VlsOk K α G vs xs) (e : Same G G') : VlsOk K α G' vs xs := by
  induction h with
  | nil => exact .nil
  | cons a _ ih => exact .cons (a.up e) ih
theorem PsOk.up {κ : Type} {K : PySem.W.Frag} {α : List Addr} {G G' : Hp} {vs : List (κ × V)} {xs : List (κ × Vl)} (h : PsOk K α G vs xs) (e : Same G G') : PsOk K α G' vs xs := by
  induction h with
  | nil => exact .nil
  | cons a _ ih => exact .cons (a.up e) ih
theorem CellOk.up {K : PySem.W.Frag} {α : List Addr} {G H G' H' : Hp} {a : Addr} {c : Cell} (h : CellOk K α G H a c) (e : Same G G') (eh : ∀ u, H a = some u → H' a = some u) : CellOk K α G' H' a c := by
  cases c with
  | junk => trivial
  | lst xs =>
    obtain ⟨vs, a, b⟩ := h
    exact ⟨vs, eh _ a, b.up e⟩
  | dic xs =>
    obtain ⟨vs, a, b⟩ := h
    exact ⟨vs, eh _ a, b.up e⟩
  | ins C xs =>
    obtain ⟨dx, vs, a, b⟩ := h
    exact ⟨dx, vs, eh _ a, b.up e⟩
theorem SlOk.up' {K : PySem.W.Frag} {H0 G H G' H' : Hp} {v : Option V} {e : Sl} (h : SlOk K H0 G H v e) (g : Same G G') (u : ∀ p o, v = some (.ref p) → e.mine = true → H p = some o → G p = none → H0 p = none → H' p = some o ∧ G' p = none) : SlOk K H0 G' H' v e := by
  cases e with
  | no => trivial
  | loc l => trivial
  | dat d =>
    obtain ⟨x, e1, r⟩ := h
    exact ⟨x, e1, r.up g⟩
  | own ds =>
    obtain ⟨p, xs, e1, hp, hg, h0, r⟩ := h
    obtain ⟨a, b⟩ := u p _ e1 rfl hp hg h0
    exact ⟨p, xs, e1, a, b, h0, r.up g⟩
  | ownD ks ds =>
    obtain ⟨p, xs, e1, hp, hg, h0, e2, r⟩ := h
    obtain ⟨a, b⟩ := u p _ e1 rfl hp hg h0
    exact ⟨p, xs, e1, a, b, h0, e2, r.up g⟩
theorem SlOk.up {K : PySem.W.Frag} {H0 G H G' H' : Hp} {v : Option V} {e : Sl} (h : SlOk K H0 G H v e) (u : Up G H G' H') : SlOk K H0 G' H' v e :=
  h.up' u.g fun p o _ _ hp hg _ => ⟨u.h _ _ hp, u.new p hg (by rw [hp]; simp)⟩
theorem SlOk.at {K : PySem.W.Frag} {H0 G H : Hp} {v : Option V} {e : Sl} (h : SlOk K H0 G H v e) (m : e.mine = true) : ∃ p o, v = some (.ref p) ∧ H p = some o ∧ G p = none ∧ H0 p = none := by
  cases e with
  | no => cases m
  | loc l => cases m
  | dat d => cases m
  | own ds =>
    obtain ⟨p, xs, e1, hp, hg, h0, r⟩ := h
    exact ⟨p, _, e1, hp, hg, h0⟩
  | ownD ks ds =>
    obtain ⟨p, xs, e1, hp, hg, h0, e2, r⟩ := h
    exact ⟨p, _, e1, hp, hg, h0⟩
section
variable {K : PySem.W.Frag} {G0 : Gh} {H0 G H G' H' : Hp} {ε : Sta} {σ : L2.St} {α : List Addr}
theorem Al.up (l : Al K α H0 ε σ G H) (g : Same G G') (hh : ∀ a, a ∈ α → (∀ u, H a = some u → H' a = some u) ∧ G' a = none) : Al K α H0 ε σ G' H' := by
  refine ⟨l.len, l.nd, fun i a ha => ?_, l.loc, l.own⟩
  obtain ⟨h1, h2, h3, h4⟩ := l.cell i a ha
  obtain ⟨h5, h6⟩ := hh a (List.mem_of_getElem? ha)
  refine ⟨h6, h2, fun z => ?_, fun c hc => (h4 c hc).up g h5⟩
  cases q : H a with
  | none => exact h3 q
  | some u =>
    rw [h5 u q] at z
    cases z
theorem Al.off (l : Al K α H0 ε σ G H) {p : Addr} (h : H p = none ∨ G p ≠ none ∨ H0 p ≠ none) : p ∉ α := fun m => by
  obtain ⟨i, hi⟩ := List.getElem?_of_mem m
  obtain ⟨h1, h2, h3, _⟩ := l.cell i p hi
  rcases h with h | h | h
  · exact h3 h
  · exact h h1
  · exact h h2
theorem Al.step (l : Al K α H0 ε σ G H) (u : Up G H G' H') : Al K α H0 ε σ G' H' := l.up u.g fun a m => by
  obtain ⟨i, hi⟩ := List.getElem?_of_mem m
  obtain ⟨h1, h2, h3, _⟩ := l.cell i a hi
  exact ⟨fun w q => u.h _ _ q, u.new a h1 h3⟩
/-- slots change, cells not -/
theorem Al.slots (l : Al K α H0 ε σ G H) {ε' : Sta} {σ' : L2.St} (e : ε'.om = ε.om) (hl : ∀ (i l : Nat), ε'[i]? = some (.loc l) → ∃ a, α[l]? = some a ∧ σ'[i]? = some (some (.ref a)))
    (ho : ∀ (i : Nat) (e : Sl) (p : Addr), ε'[i]? = some e → e.mine = true → σ'[i]? = some (some (.ref p)) → p ∉ α) : Al K α H0 ε' σ' G H :=
  ⟨by rw [e]; exact l.len, l.nd, fun i a ha => by rw [e]; exact l.cell i a ha, hl, ho⟩
theorem Ok.step (o : Ok K G0 H0 ε σ G H) (u : Up G H G' H') : Ok K G0 H0 ε σ G' H' :=
  ⟨o.up.trans u, fun i e h => let ⟨v, a, b⟩ := o.get i e h; ⟨v, a, b.up u⟩, o.ne, o.len, o.al.step u⟩
/-- a new object of ours: it is none of the slots' -/
theorem Ok.fresh (o : Ok K G0 H0 ε σ G H) {p : Addr} (hp : H p = none) {i : Nat} {e : Sl} (h : ε[i]? = some e) (m : e.mine = true) : σ[i]? ≠ some (some (.ref p)) := fun z => by
  obtain ⟨v, a, b⟩ := o.get i e h
  obtain ⟨q, ob, e1, e2, _⟩ := b.at m
  rw [z] at a
  cases a
  cases e1
  rw [hp] at e2
  cases e2
theorem Ok.freshA (o : Ok K G0 H0 ε σ G H) {p : Addr} (hp : H p = none) : p ∉ G0.a := o.al.off (.inl hp)
/-- a slot is stored -/
theorem Ok.storeX (o : Ok K G0 H0 ε σ G H) {i : Nat} {v : Option V} {e : Sl} (h : SlOk K H0 G H v e) (hl : ∀ l, e = .loc l → ∃ a, G0.a[l]? = some a ∧ v = some (.ref a))
    (m : e.mine = true → ∃ p, v = some (.ref p) ∧ p ∉ G0.a ∧ ∀ (j : Nat) (f : Sl), j ≠ i → ε[j]? = some f → f.mine = true → σ[j]? ≠ some (some (.ref p))) :
    Ok K G0 H0 (ε.set i e) (σ.set i v) G H := by
  have hl' := o.len
  have sv : ∀ {j : Nat}, j ≠ i → (σ.set i v)[j]? = σ[j]? := fun hj => List.getElem?_set_ne (Ne.symm hj)
  have ss : i < ε.sl.length → (σ.set i v)[i]? = some v := fun hj => List.getElem?_set_self (by omega)
  refine ⟨o.up, fun j f hj => ?_, fun j k f g p hjk hj hk mj mk sj sk => ?_, by rw [List.length_set, Sta.set_len]; exact hl', o.al.slots rfl (fun j l hj => ?_) (fun j f p hj mj sj => ?_)⟩
  · rcases Sta.of_set hj with ⟨rfl, rfl, hlt⟩ | ⟨n, hj'⟩
    · exact ⟨_, ss hlt, h⟩
    · rw [sv n]
      exact o.get j f hj'
  · rcases Sta.of_set hj with ⟨rfl, rfl, hlt⟩ | ⟨n, hj'⟩
    · rcases Sta.of_set hk with ⟨rfl, rfl, _⟩ | ⟨n2, hk'⟩
      · exact hjk rfl
      · obtain ⟨p', e1, _, q⟩ := m mj
        rw [ss hlt, e1] at sj
        cases sj
        rw [sv n2] at sk
        exact q k g n2 hk' mk sk
    · rcases Sta.of_set hk with ⟨rfl, rfl, hlt⟩ | ⟨n2, hk'⟩
      · obtain ⟨p', e1, _, q⟩ := m mk
        rw [ss hlt, e1] at sk
        cases sk
        rw [sv n] at sj
        exact q j f n hj' mj sj
      · rw [sv n] at sj
        rw [sv n2] at sk
        exact o.ne j k f g p hjk hj' hk' mj mk sj sk
  · rcases Sta.of_set hj with ⟨rfl, e1, hlt⟩ | ⟨n, hj'⟩
    · obtain ⟨a, q1, q2⟩ := hl l e1.symm
      exact ⟨a, q1, by rw [ss hlt, q2]⟩
    · rw [sv n]
      exact o.al.loc j l hj'
  · rcases Sta.of_set hj with ⟨rfl, rfl, hlt⟩ | ⟨n, hj'⟩
    · obtain ⟨p', e1, q, _⟩ := m mj
      rw [ss hlt, e1] at sj
      cases sj
      exact q
    · rw [sv n] at sj
      exact o.al.own j f p hj' mj sj
theorem Ok.storeD (o : Ok K G0 H0 ε σ G H) {i : Nat} {v : V} {d : Dat} (r : R K G v d) : Ok K G0 H0 (ε.set i (.dat d)) (σ.set i (some v)) G H :=
  o.storeX ⟨v, rfl, r⟩ (fun l z => by cases z) (fun z => by cases z)
theorem Ok.storeV (o : Ok K G0 H0 ε σ G H) {i : Nat} {v : V} {x : Vl} (r : VlOk K G0.a G v x) : Ok K G0 H0 (ε.set i x.sl) (σ.set i (some v)) G H := by
  cases x with
  | dat d => exact o.storeD r
  | loc l =>
    obtain ⟨a, q1, q2⟩ := r
    refine o.storeX (e := .loc l) trivial (fun l' z => ?_) (fun z => by cases z)
    cases z
    exact ⟨a, q1, by rw [q2]⟩
/-- a slot is forgotten -/
theorem Ok.drop (o : Ok K G0 H0 ε σ G H) {i : Nat} (v : Option V) : Ok K G0 H0 (ε.set i .no) (σ.set i v) G H :=
  o.storeX (e := .no) trivial (fun l z => by cases z) (fun z => by cases z)
/-- an own slot's object has no other holder -/
theorem Ok.alone (o : Ok K G0 H0 ε σ G H) {i j : Nat} {e f : Sl} {p : Addr} (h : ε[i]? = some e) (m : e.mine = true) (a : σ[i]? = some (some (.ref p))) (n : j ≠ i) (hj : ε[j]? = some f) (mj : f.mine = true) : σ[j]? ≠ some (some (.ref p)) :=
  fun z => o.ne i j _ _ p (Ne.symm n) h hj m mj a z
/-- an object of ours stands from now on -/
theorem Ok.standX (o : Ok K G0 H0 ε σ G H) {i : Nat} {e : Sl} {p : Addr} {ob : HO} {d : Dat} (h : ε[i]? = some e) (m : e.mine = true) (a : σ[i]? = some (some (.ref p))) (hp : H p = some ob) (hg : G p = none) (h0 : H0 p = none)
    (r : R K (upd G p ob) (.ref p) d) : Ok K G0 H0 (ε.set i (.dat d)) σ (upd G p ob) H := by
  have sg : Same G (upd G p ob) := same_upd hg
  have pa : p ∉ G0.a := o.al.own i e p h m a
  have al1 := o.al.up (G' := upd G p ob) (H' := H) sg fun b mb => ⟨fun _ q => q, by
    rw [upd_ne (ne_off mb pa)]
    exact o.al.cell _ _ (List.getElem?_of_mem mb).choose_spec |>.1⟩
  refine ⟨o.up.freeze hp hg h0, fun j f hj => ?_, fun j k f g q hjk hj hk mj mk sj sk => ?_, by rw [Sta.set_len]; exact o.len, al1.slots rfl (fun j l hj => ?_) (fun j f q hj mj sj => ?_)⟩
  · rcases Sta.of_set hj with ⟨rfl, rfl, hlt⟩ | ⟨n, hj⟩
    · exact ⟨_, a, _, rfl, r⟩
    · obtain ⟨v, a2, b⟩ := o.get j f hj
      refine ⟨v, a2, b.up' sg fun q o' ev mf hq hgq _ => ⟨hq, ?_⟩⟩
      subst ev
      rw [upd_ne (fun z => by subst z; exact o.alone h m a n hj mf a2)]
      exact hgq
  · rcases Sta.of_set hj with ⟨_, rfl, _⟩ | ⟨n, hj⟩
    · cases mj
    · rcases Sta.of_set hk with ⟨_, rfl, _⟩ | ⟨n2, hk⟩
      · cases mk
      · exact o.ne j k f g q hjk hj hk mj mk sj sk
  · rcases Sta.of_set hj with ⟨_, z, _⟩ | ⟨n, hj⟩
    · cases z
    · exact o.al.loc j l hj
  · rcases Sta.of_set hj with ⟨_, rfl, _⟩ | ⟨n, hj⟩
    · cases mj
    · exact o.al.own j f q hj mj sj
/-- a list of ours stands from now on -/
theorem Ok.stand (o : Ok K G0 H0 ε σ G H) {i : Nat} {ds : List Dat} (h : ε[i]? = some (.own ds)) : ∃ p xs, H p = some (.lst xs) ∧ G p = none ∧ H0 p = none ∧ σ[i]? = some (some (.ref p)) ∧ Ok K G0 H0 (ε.set i (.dat (.lst ds))) σ (upd G p (.lst xs)) H := by
  obtain ⟨v, a, p, xs, e1, hp, hg, h0, r⟩ := o.get i _ h
  subst e1
  exact ⟨p, xs, hp, hg, h0, a, o.standX h rfl a hp hg h0 (.lst (.inl (.inl upd_same)) (r.up (same_upd hg)))⟩
/-- a dict of ours stands from now on -/
theorem Ok.standD (o : Ok K G0 H0 ε σ G H) {i : Nat} {ks : List Key} {ds : List Dat} (h : ε[i]? = some (.ownD ks ds)) : ∃ p ob, H p = some ob ∧ G p = none ∧ Ok K G0 H0 (ε.set i (.dat (.dic ks ds))) σ (upd G p ob) H := by
  obtain ⟨v, a, p, kvs, e1, hp, hg, h0, e2, r⟩ := o.get i _ h
  subst e1 e2
  exact ⟨p, _, hp, hg, o.standX h rfl a hp hg h0 (.dic upd_same (r.up (same_upd hg)))⟩
/-- an object of ours changes -/
theorem Ok.write (o : Ok K G0 H0 ε σ G H) {i : Nat} {e f : Sl} {p : Addr} {ob : HO} (h : ε[i]? = some e) (m : e.mine = true) (a : σ[i]? = some (some (.ref p))) (hf : SlOk K H0 G (upd H p ob) (some (.ref p)) f) (mf : f.mine = true) :
    Ok K G0 H0 (ε.set i f) σ G (upd H p ob) := by
  obtain ⟨v, a', b⟩ := o.get i _ h
  obtain ⟨q, ob', e1, hp, hg, h0⟩ := b.at m
  rw [a] at a'
  cases a'
  cases e1
  have pa : p ∉ G0.a := o.al.own i e p h m a
  have al1 := o.al.up (G' := G) (H' := upd H p ob) (.refl _) fun b mb => ⟨fun _ q => by rw [upd_ne (ne_off mb pa)]; exact q, (o.al.cell _ _ (List.getElem?_of_mem mb).choose_spec).1⟩
  have get' : ∀ {j : Nat} {g : Sl}, (ε.set i f)[j]? = some g → g.mine = true → ∃ g', ε[j]? = some g' ∧ g'.mine = true := fun {j g} hj mj => by
    rcases Sta.of_set hj with ⟨rfl, rfl, _⟩ | ⟨n, hj⟩
    · exact ⟨e, h, m⟩
    · exact ⟨g, hj, mj⟩
  refine ⟨o.up.write hg h0, fun j g hj => ?_, fun j k g g' q hjk hj hk mj mk sj sk => ?_, by rw [Sta.set_len]; exact o.len, al1.slots rfl (fun j l hj => ?_) (fun j g q hj mj sj => ?_)⟩
  · rcases Sta.of_set hj with ⟨rfl, rfl, hlt⟩ | ⟨n, hj⟩
    · exact ⟨_, a, hf⟩
    · obtain ⟨u, a2, b2⟩ := o.get j g hj
      refine ⟨u, a2, b2.up' (.refl _) fun q o' ev mf hq hgq _ => ⟨?_, hgq⟩⟩
      subst ev
      rw [upd_ne (fun z => by subst z; exact o.alone h m a n hj mf a2)]
      exact hq
  · obtain ⟨g1, k1, m1⟩ := get' hj mj
    obtain ⟨g2, k2, m2⟩ := get' hk mk
    exact o.ne j k g1 g2 q hjk k1 k2 m1 m2 sj sk
  · rcases Sta.of_set hj with ⟨_, z, _⟩ | ⟨n, hj⟩
    · subst z
      cases mf
    · exact o.al.loc j l hj
  · obtain ⟨g1, k1, m1⟩ := get' hj mj
    exact o.al.own j g1 q k1 m1 sj
/-- a new object D that is not ours yet changes -/
theorem Ok.other (o : Ok K G0 H0 ε σ G H) {p : Addr} {ob : HO} (hg : G p = none) (h0 : H0 p = none) (pa : p ∉ G0.a) (hs : ∀ (i : Nat) (e : Sl), ε[i]? = some e → e.mine = true → σ[i]? ≠ some (some (.ref p))) : Ok K G0 H0 ε σ G (upd H p ob) := by
  have al1 := o.al.up (G' := G) (H' := upd H p ob) (.refl _) fun b mb => ⟨fun _ q => by rw [upd_ne (ne_off mb pa)]; exact q, (o.al.cell _ _ (List.getElem?_of_mem mb).choose_spec).1⟩
  refine ⟨o.up.write hg h0, fun j g hj => ?_, o.ne, o.len, al1⟩
  obtain ⟨u, a2, b2⟩ := o.get j g hj
  refine ⟨u, a2, b2.up' (.refl _) fun q o' ev mf hq hgq _ => ⟨?_, hgq⟩⟩
  subst ev
  rw [upd_ne (fun z => by subst z; exact hs j g hj mf a2)]
  exact hq
end
end Pu
set_option Elab.async false
set_option linter.all false
set_option maxRecDepth 100000
set_option maxHeartbeats 4000000
set_option autoImplicit false
namespace Pu
open PySem PySem.Spec PyProof.Rows L2

/-! ### what an expression evaluates to -/
/-- to a datum as H tells it now | to a datum that stands | to a new list, ours | all of a row of arguments -/
def EvH (K : PySem.W.Frag) (te : TE) (ε : Sta) (d : Dat) : Prop := ∀ (G0 : Gh) (H0 : Hp) (σ : L2.St) (G H : Hp), Ok K G0 H0 ε σ G H → ∀ Q : VK, (∀ v G' H', Ok K G0 H0 ε σ G' H' → Up G H G' H' → R K H' v d → Q v H') → te σ H Q
def EvD (K : PySem.W.Frag) (te : TE) (ε : Sta) (d : Dat) : Prop := ∀ (G0 : Gh) (H0 : Hp) (σ : L2.St) (G H : Hp), Ok K G0 H0 ε σ G H → ∀ Q : VK, (∀ v G' H', Ok K G0 H0 ε σ G' H' → Up G H G' H' → R K G' v d → Q v H') → te σ H Q
def EvN (K : PySem.W.Frag) (te : TE) (ε : Sta) (ds : List Dat) : Prop := ∀ (G0 : Gh) (H0 : Hp) (σ : L2.St) (G H : Hp), Ok K G0 H0 ε σ G H → ∀ Q : VK, (∀ p xs G' H', Ok K G0 H0 ε σ G' H' → Up G H G' H' → H p = none → H' p = some (.lst xs) → G' p = none → RL K G' xs ds → Q (.ref p) H') → te σ H Q
def EvND (K : PySem.W.Frag) (te : TE) (ε : Sta) (ks : List Key) (ds : List Dat) : Prop := ∀ (G0 : Gh) (H0 : Hp) (σ : L2.St) (G H : Hp), Ok K G0 H0 ε σ G H → ∀ Q : VK, (∀ p kvs G' H', Ok K G0 H0 ε σ G' H' → Up G H G' H' → H p = none → H' p = some (.dK kvs) → G' p = none → ks = kvs.map (·.1) → RL K G' (kvs.map (·.2)) ds → Q (.ref p) H') → te σ H Q
def EvAH (K : PySem.W.Frag) (ta : TA) (ε : Sta) (ds : List Dat) : Prop := ∀ (G0 : Gh) (H0 : Hp) (σ : L2.St) (G H : Hp), Ok K G0 H0 ε σ G H → ∀ Q : List V → Hp → Prop, (∀ vs G' H', Ok K G0 H0 ε σ G' H' → Up G H G' H' → RL K H' vs ds → Q vs H') → ta σ H Q
def EvA (K : PySem.W.Frag) (ta : TA) (ε : Sta) (ds : List Dat) : Prop := ∀ (G0 : Gh) (H0 : Hp) (σ : L2.St) (G H : Hp), Ok K G0 H0 ε σ G H → ∀ Q : List V → Hp → Prop, (∀ vs G' H', Ok K G0 H0 ε σ G' H' → Up G H G' H' → RL K G' vs ds → Q vs H') → ta σ H Q
def EvT (K : PySem.W.Frag) (tt : TT) (ε : Sta) (b : Bool) : Prop := ∀ (G0 : Gh) (H0 : Hp) (σ : L2.St) (G H : Hp), Ok K G0 H0 ε σ G H → ∀ Q : Bool → Hp → Prop, (∀ G' H', Ok K G0 H0 ε σ G' H' → Up G H G' H' → Q b H') → tt σ H Q
def EvO (K : PySem.W.Frag) (to : TO) (ε : Sta) (o : Option Int) : Prop := ∀ (G0 : Gh) (H0 : Hp) (σ : L2.St) (G H : Hp), Ok K G0 H0 ε σ G H → ∀ Q : Option Int → Hp → Prop, (∀ G' H', Ok K G0 H0 ε σ G' H' → Up G H G' H' → Q o H') → to σ H Q

/-! ### by values -/
def RD (K : PySem.W.Frag) (r : R2) (x y z : Dat) : Prop := ∀ (vx vy : V) (G H : Hp), Same G H → R K G vx x → R K G vy y → ∀ Q : VK, (∀ v G' H', Up G H G' H' → R K G' v z → Q v H') → r vx vy H Q
def RDN (K : PySem.W.Frag) (r : R2) (x y : Dat) (zs : List Dat) : Prop := ∀ (vx vy : V) (G H : Hp), Same G H → R K G vx x → R K G vy y → ∀ Q : VK, (∀ p xs H', Same H H' → H p = none → H' p = some (.lst xs) → RL K G xs zs → Q (.ref p) H') → r vx vy H Q
def RC (K : PySem.W.Frag) (r : List V → Hp → VK → Prop) (ds : List Dat) (z : Dat) : Prop := ∀ (vs : List V) (G H : Hp), Same G H → RL K G vs ds → ∀ Q : VK, (∀ v G' H', Up G H G' H' → R K G' v z → Q v H') → r vs H Q
def RCN (K : PySem.W.Frag) (r : List V → Hp → VK → Prop) (ds zs : List Dat) : Prop := ∀ (vs : List V) (G H : Hp), Same G H → RL K G vs ds → ∀ Q : VK, (∀ p xs H', Same H H' → H p = none → H' p = some (.lst xs) → RL K G xs zs → Q (.ref p) H') → r vs H Q

theorem Up.wide {G H H' : Hp} (e : Same G H) (h : Same H H') : Up G H G H' := ⟨.refl _, h, e.trans h, fun _ n _ => n⟩
def Dat.flat : Dat → Bool
  | .non | .bl _ | .int _ | .str _ => true
  | _ => false
theorem R.flat {K : PySem.W.Frag} {G G' : Hp} {v : V} {d : Dat} (h : R K G v d) (f : d.flat = true) : R K G' v d := by
  cases h with
  | non => exact .non
  | bl b => exact .bl b
  | int i => exact .int i
  | str x => exact .str x
  | _ => cases f
/-- the value of a flat datum -/
def Dat.v : Dat → V
  | .bl b => .bl b
  | .int i => .int i
  | .str x => .str x
  | _ => .non
theorem R.v {K : PySem.W.Frag} {G : Hp} {v : V} {d : Dat} (h : R K G v d) (f : d.flat = true) : v = d.v := by
  cases h with
  | non => rfl
  | bl b => rfl
  | int i => rfl
  | str x => rfl
  | _ => cases f

section
variable {K : PySem.W.Frag} {ε : Sta} {te ta tb tx : TE} {tu tw : TA} {t u : TT} {x y z d : Dat} {ds es : List Dat}
theorem EvD.toH (h : EvD K te ε d) : EvH K te ε d := fun G0 H0 σ G H o Q q => h G0 H0 σ G H o Q fun v G' H' o' u r => q v G' H' o' u (r.up o'.up.le)
theorem EvH.toD (h : EvH K te ε d) (f : d.flat = true := by rfl) : EvD K te ε d := fun G0 H0 σ G H o Q q => h G0 H0 σ G H o Q fun v G' H' o' u r => q v G' H' o' u (r.flat f)
theorem EvA.toH (h : EvA K tu ε ds) : EvAH K tu ε ds := fun G0 H0 σ G H o Q q => h G0 H0 σ G H o Q fun v G' H' o' u r => q v G' H' o' u (r.up o'.up.le)
theorem EvN.toD (h : EvN K te ε ds) : EvD K te ε (.lst ds) := fun G0 H0 σ G H o Q q => h G0 H0 σ G H o Q fun p xs G' H' o' u hp hp' hg r => by
  have h0 : H0 p = none := o.up.h.free hp
  have sg : Same G' (upd G' p (.lst xs)) := same_upd hg
  have u2 : Up G H (upd G' p (.lst xs)) H' := u.freeze hp' hg hp
  exact q _ (upd G' p (.lst xs)) H' (o.step u2) u2 (.lst (.inl (.inl upd_same)) (r.up sg))
theorem EvN.toH (h : EvN K te ε ds) : EvH K te ε (.lst ds) := h.toD.toH

theorem evd_var {i : Nat} (h : ε[i]? = some (.dat d)) : EvD K (tVar i) ε d := fun G0 H0 σ G H o Q q => by
  obtain ⟨v, a, w, e, r⟩ := o.get i _ h
  subst e
  exact ⟨w, a, q w G H o (.refl o.up.le) r⟩
theorem evh_own {i : Nat} (h : ε[i]? = some (.own ds)) : EvH K (tVar i) ε (.lst ds) := fun G0 H0 σ G H o Q q => by
  obtain ⟨v, a, p, xs, e, hp, hg, h0, r⟩ := o.get i _ h
  subst e
  exact ⟨_, a, q _ G H o (.refl o.up.le) (.lst (.inl (.inl hp)) (r.up o.up.le))⟩
theorem evh_ownD {i : Nat} {ks : List Key} (h : ε[i]? = some (.ownD ks ds)) : EvH K (tVar i) ε (.dic ks ds) := fun G0 H0 σ G H o Q q => by
  obtain ⟨v, a, p, xs, e, hp, hg, h0, e2, r⟩ := o.get i _ h
  subst e e2
  exact ⟨_, a, q _ G H o (.refl o.up.le) (.dic hp (r.up o.up.le))⟩
theorem evd_c {v : V} (h : ∀ G, R K G v d) : EvD K (tC v) ε d := fun G0 H0 σ G H o Q q => q v G H o (.refl o.up.le) (h G)
theorem evd_int {i : Int} : EvD K (tC (.int i)) ε (.int i) := evd_c fun _ => .int i
theorem evd_str {i : Str} : EvD K (tC (.str i)) ε (.str i) := evd_c fun _ => .str i
theorem evd_bl {i : Bool} : EvD K (tC (.bl i)) ε (.bl i) := evd_c fun _ => .bl i
theorem evd_non : EvD K (tC .non) ε .non := evd_c fun _ => .non

theorem evd_op {r : R2} (ha : EvD K ta ε x) (hb : EvD K tb ε y) (hr : RD K r x y z) : EvD K (tOp r ta tb) ε z := fun G0 H0 σ G H o Q q =>
  ha G0 H0 σ G H o _ fun v G1 H1 o1 u1 r1 => hb G0 H0 σ G1 H1 o1 _ fun w G2 H2 o2 u2 r2 => hr v w G2 H2 o2.up.le (r1.up u2.g) r2 Q fun v3 G3 H3 u3 r3 => q v3 G3 H3 (o2.step u3) ((u1.trans u2).trans u3) r3
theorem evh_op {r : R2} (ha : EvH K ta ε x) (hb : EvH K tb ε y) (hr : RD K r x y z) : EvH K (tOp r ta tb) ε z := fun G0 H0 σ G H o Q q =>
  ha G0 H0 σ G H o _ fun v G1 H1 o1 u1 r1 => hb G0 H0 σ G1 H1 o1 _ fun w G2 H2 o2 u2 r2 => hr v w H2 H2 (.refl _) (r1.up u2.h) r2 Q fun v3 G3 H3 u3 r3 =>
    have u4 : Up G2 H2 G2 H3 := .wide o2.up.le u3.h
    q v3 G2 H3 (o2.step u4) ((u1.trans u2).trans u4) (r3.up u3.le)
theorem evn_op {r : R2} {zs : List Dat} (ha : EvD K ta ε x) (hb : EvD K tb ε y) (hr : RDN K r x y zs) : EvN K (tOp r ta tb) ε zs := fun G0 H0 σ G H o Q q =>
  ha G0 H0 σ G H o _ fun v G1 H1 o1 u1 r1 => hb G0 H0 σ G1 H1 o1 _ fun w G2 H2 o2 u2 r2 => hr v w G2 H2 o2.up.le (r1.up u2.g) r2 Q fun p xs H3 s3 hp hp3 r3 =>
    have u4 : Up G2 H2 G2 H3 := .wide o2.up.le s3
    q p xs G2 H3 (o2.step u4) ((u1.trans u2).trans u4) ((u1.trans u2).h.free hp) hp3 (o2.up.le.free hp) r3
theorem evd_un {r : V → Hp → VK → Prop} (ha : EvD K ta ε x) (hr : RC K (fun vs H Q => ∃ v, vs = [v] ∧ r v H Q) [x] z) : EvD K (tUn r ta) ε z := fun G0 H0 σ G H o Q q =>
  ha G0 H0 σ G H o _ fun v G1 H1 o1 u1 r1 => by
    obtain ⟨v', e, h⟩ := hr [v] G1 H1 o1.up.le (.one r1) Q fun v3 G3 H3 u3 r3 => q v3 G3 H3 (o1.step u3) (u1.trans u3) r3
    cases e
    exact h
theorem eva_nil : EvA K tNil ε [] := fun G0 H0 σ G H o Q q => q [] G H o (.refl o.up.le) .nil
theorem eva_cons (h : EvD K te ε d) (hr : EvA K tu ε ds) : EvA K (tCons te tu) ε (d :: ds) := fun G0 H0 σ G H o Q q =>
  h G0 H0 σ G H o _ fun v G1 H1 o1 u1 r1 => hr G0 H0 σ G1 H1 o1 _ fun vs G2 H2 o2 u2 r2 => q _ G2 H2 o2 (u1.trans u2) (.cons (r1.up u2.g) r2)
theorem evah_nil : EvAH K tNil ε [] := eva_nil.toH
theorem evah_cons (h : EvH K te ε d) (hr : EvAH K tu ε ds) : EvAH K (tCons te tu) ε (d :: ds) := fun G0 H0 σ G H o Q q =>
  h G0 H0 σ G H o _ fun v G1 H1 o1 u1 r1 => hr G0 H0 σ G1 H1 o1 _ fun vs G2 H2 o2 u2 r2 => q _ G2 H2 o2 (u1.trans u2) (.cons (r1.up u2.h) r2)
theorem size_ok {n : Nat} (h : n ≤ 16777216) : n ≤ sizeLine := by rw [sizeLine_eq]; exact h
theorem size_lt {n : Nat} (h : n < 16777216) : n < sizeLine := by rw [sizeLine_eq]; exact h
theorem evd_tup (h : EvA K tu ε ds) (hl : ds.length ≤ 16777216 := by decide) : EvD K (tTup tu) ε (.tup ds) := fun G0 H0 σ G H o Q q =>
  h G0 H0 σ G H o _ fun vs G1 H1 o1 u1 r1 => ⟨size_ok (by rw [r1.len]; exact hl), fun p hp =>
    have u2 : Up G1 H1 (upd G1 p (.tup vs)) (upd H1 p (.tup vs)) := .lay o1.up.le hp
    q _ _ _ (o1.step u2) (u1.trans u2) (.tup upd_same (r1.up u2.g))⟩
theorem evh_tup (h : EvAH K tu ε ds) (hl : ds.length ≤ 16777216 := by decide) : EvH K (tTup tu) ε (.tup ds) := fun G0 H0 σ G H o Q q =>
  h G0 H0 σ G H o _ fun vs G1 H1 o1 u1 r1 => ⟨size_ok (by rw [r1.len]; exact hl), fun p hp =>
    have s2 : Same H1 (upd H1 p (.tup vs)) := same_upd hp
    have u2 : Up G1 H1 G1 (upd H1 p (.tup vs)) := .wide o1.up.le s2
    q _ _ _ (o1.step u2) (u1.trans u2) (.tup upd_same (r1.up s2))⟩
theorem evn_lst (h : EvA K tu ε ds) (hl : ds.length ≤ 16777216 := by decide) : EvN K (tLst tu) ε ds := fun G0 H0 σ G H o Q q =>
  h G0 H0 σ G H o _ fun vs G1 H1 o1 u1 r1 => ⟨size_ok (by rw [r1.len]; exact hl), fun p hp =>
    have u2 : Up G1 H1 G1 (upd H1 p (.lst vs)) := .own o1.up.le hp
    q _ _ _ _ (o1.step u2) (u1.trans u2) (u1.h.free hp) upd_same (o1.up.le.free hp) (r1.up u2.g)⟩
theorem evh_lst (h : EvAH K tu ε ds) (hl : ds.length ≤ 16777216 := by decide) : EvH K (tLst tu) ε (.lst ds) := fun G0 H0 σ G H o Q q =>
  h G0 H0 σ G H o _ fun vs G1 H1 o1 u1 r1 => ⟨size_ok (by rw [r1.len]; exact hl), fun p hp =>
    have s2 : Same H1 (upd H1 p (.lst vs)) := same_upd hp
    have u2 : Up G1 H1 G1 (upd H1 p (.lst vs)) := .wide o1.up.le s2
    q _ _ _ (o1.step u2) (u1.trans u2) (.lst (.inl (.inl upd_same)) (r1.up s2))⟩
theorem evd_cb {r : List V → Hp → VK → Prop} (h : EvA K tu ε ds) (hr : RC K r ds z) : EvD K (tCB r tu) ε z := fun G0 H0 σ G H o Q q =>
  h G0 H0 σ G H o _ fun vs G1 H1 o1 u1 r1 => hr vs G1 H1 o1.up.le r1 Q fun v3 G3 H3 u3 r3 => q v3 G3 H3 (o1.step u3) (u1.trans u3) r3
theorem evh_cb {r : List V → Hp → VK → Prop} (h : EvAH K tu ε ds) (hr : RC K r ds z) : EvH K (tCB r tu) ε z := fun G0 H0 σ G H o Q q =>
  h G0 H0 σ G H o _ fun vs G1 H1 o1 u1 r1 => hr vs H1 H1 (.refl _) r1 Q fun v3 G3 H3 u3 r3 =>
    have u4 : Up G1 H1 G1 H3 := .wide o1.up.le u3.h
    q v3 G1 H3 (o1.step u4) (u1.trans u4) (r3.up u3.le)
theorem evn_cb {r : List V → Hp → VK → Prop} {zs : List Dat} (h : EvA K tu ε ds) (hr : RCN K r ds zs) : EvN K (tCB r tu) ε zs := fun G0 H0 σ G H o Q q =>
  h G0 H0 σ G H o _ fun vs G1 H1 o1 u1 r1 => hr vs G1 H1 o1.up.le r1 Q fun p xs H3 s3 hp hp3 r3 =>
    have u4 : Up G1 H1 G1 H3 := .wide o1.up.le s3
    q p xs G1 H3 (o1.step u4) (u1.trans u4) (u1.h.free hp) hp3 (o1.up.le.free hp) r3
/-- a new list of what our own list holds (flat things): by H alone -/
theorem evn_cbH {r : List V → Hp → VK → Prop} {zs : List Dat} (h : EvAH K tu ε ds) (hr : RCN K r ds zs) (f : ∀ z ∈ zs, z.flat = true) : EvN K (tCB r tu) ε zs := fun G0 H0 σ G H o Q q =>
  h G0 H0 σ G H o _ fun vs G1 H1 o1 u1 r1 => hr vs H1 H1 (.refl _) r1 Q fun p xs H3 s3 hp hp3 r3 =>
    have u4 : Up G1 H1 G1 H3 := .wide o1.up.le s3
    have fl : ∀ (zs : List Dat) (xs : List V), (∀ z ∈ zs, z.flat = true) → RL K H1 xs zs → RL K G1 xs zs := fun zs => by
      induction zs with
      | nil => intro xs _ h; cases h; exact .nil
      | cons z zs ih =>
        intro xs f h
        cases h with
        | cons a b => exact .cons (a.flat (f z List.mem_cons_self)) (ih _ (fun w hw => f w (List.mem_cons_of_mem _ hw)) b)
    q p xs G1 H3 (o1.step u4) (u1.trans u4) (u1.h.free hp) hp3 (o1.up.le.free hp) (fl zs xs f r3)

/-! ### calls of defs -/
inductive Res where
  | dat (d : Dat)
  | new (ds : List Dat)
  | newD (ks : List Key) (ds : List Dat)
def ResOk (K : PySem.W.Frag) (G0 H0 : Hp) (r : Res) (v : V) (G H : Hp) : Prop :=
  match r with
  | .dat d => Up G0 H0 G H ∧ R K G v d
  | .new ds => ∃ p xs, v = .ref p ∧ Up G0 H0 G H ∧ H p = some (.lst xs) ∧ G p = none ∧ H0 p = none ∧ RL K G xs ds
  | .newD ks ds => ∃ p kvs, v = .ref p ∧ Up G0 H0 G H ∧ H p = some (.dK kvs) ∧ G p = none ∧ H0 p = none ∧ ks = kvs.map (·.1) ∧ RL K G (kvs.map (·.2)) ds
/-- the promise of a def that is a function of data: P tells its results -/
def spF (K : PySem.W.Frag) (P : List Dat → Res → Prop) : Sp := fun vs H Q _ => ∃ G ds r, Same G H ∧ RL K G vs ds ∧ P ds r ∧ ∀ v G' H', ResOk K G H r v G' H' → Q v H'
theorem evd_call {P : List Dat → Res → Prop} {E : XK} {dvs : List V} {es : List Dat} (h : EvA K tu ε ds) (hd : ∀ G, RL K G dvs es) (hP : P (ds ++ es) (.dat z)) : EvD K (tCall (spF K P) dvs E tu) ε z := fun G0 H0 σ G H o Q q =>
  h G0 H0 σ G H o _ fun vs G1 H1 o1 u1 r1 => ⟨G1, _, _, o1.up.le, r1.app (hd _), hP, fun v G' H' hr => q v G' H' (o1.step hr.1) (u1.trans hr.1) hr.2⟩
theorem evh_call {P : List Dat → Res → Prop} {E : XK} {dvs : List V} {es : List Dat} (h : EvAH K tu ε ds) (hd : ∀ G, RL K G dvs es) (hP : P (ds ++ es) (.dat z)) : EvH K (tCall (spF K P) dvs E tu) ε z := fun G0 H0 σ G H o Q q =>
  h G0 H0 σ G H o _ fun vs G1 H1 o1 u1 r1 => ⟨H1, _, _, .refl _, r1.app (hd _), hP, fun v G' H' hr =>
    have u4 : Up G1 H1 G1 H' := .wide o1.up.le hr.1.h
    q v G1 H' (o1.step u4) (u1.trans u4) (hr.2.up hr.1.le)⟩
theorem evn_call {P : List Dat → Res → Prop} {E : XK} {dvs : List V} {es zs : List Dat} (h : EvA K tu ε ds) (hd : ∀ G, RL K G dvs es) (hP : P (ds ++ es) (.new zs)) : EvN K (tCall (spF K P) dvs E tu) ε zs := fun G0 H0 σ G H o Q q =>
  h G0 H0 σ G H o _ fun vs G1 H1 o1 u1 r1 => ⟨G1, _, _, o1.up.le, r1.app (hd _), hP, fun v G' H' hr => by
    obtain ⟨p, xs, e, u2, hp, hg, h0, r⟩ := hr
    subst e
    exact q p xs G' H' (o1.step u2) (u1.trans u2) (u1.h.free h0) hp hg r⟩
theorem evnd_call {P : List Dat → Res → Prop} {E : XK} {dvs : List V} {es zs : List Dat} {ks : List Key} (h : EvA K tu ε ds) (hd : ∀ G, RL K G dvs es) (hP : P (ds ++ es) (.newD ks zs)) : EvND K (tCall (spF K P) dvs E tu) ε ks zs := fun G0 H0 σ G H o Q q =>
  h G0 H0 σ G H o _ fun vs G1 H1 o1 u1 r1 => ⟨G1, _, _, o1.up.le, r1.app (hd _), hP, fun v G' H' hr => by
    obtain ⟨p, xs, e, u2, hp, hg, h0, e2, r⟩ := hr
    subst e
    exact q p xs G' H' (o1.step u2) (u1.trans u2) (u1.h.free h0) hp hg e2 r⟩
/-- without defaults -/
theorem evd_call' {P : List Dat → Res → Prop} {E : XK} (h : EvA K tu ε ds) (hP : P ds (.dat z)) : EvD K (tCall (spF K P) [] E tu) ε z := evd_call (es := []) h (fun _ => .nil) (by rw [List.append_nil]; exact hP)
theorem evh_call' {P : List Dat → Res → Prop} {E : XK} (h : EvAH K tu ε ds) (hP : P ds (.dat z)) : EvH K (tCall (spF K P) [] E tu) ε z := evh_call (es := []) h (fun _ => .nil) (by rw [List.append_nil]; exact hP)
theorem evn_call' {P : List Dat → Res → Prop} {E : XK} {zs : List Dat} (h : EvA K tu ε ds) (hP : P ds (.new zs)) : EvN K (tCall (spF K P) [] E tu) ε zs := evn_call (es := []) h (fun _ => .nil) (by rw [List.append_nil]; exact hP)
theorem evnd_call' {P : List Dat → Res → Prop} {E : XK} {zs : List Dat} {ks : List Key} (h : EvA K tu ε ds) (hP : P ds (.newD ks zs)) : EvND K (tCall (spF K P) [] E tu) ε ks zs := evnd_call (es := []) h (fun _ => .nil) (by rw [List.append_nil]; exact hP)

/-! ### tests, truths -/
theorem evt_test {b : Bool} (h : EvH K te ε (.bl b)) : EvT K (tTest te) ε b := fun G0 H0 σ G H o Q q => h G0 H0 σ G H o _ fun v G1 H1 o1 u1 r1 => by
  cases r1
  exact ⟨b, rfl, q G1 H1 o1 u1⟩
theorem evt_B {b : Bool} (h : EvH K te ε (.bl b)) : EvT K (tB te) ε b := fun G0 H0 σ G H o Q q => h G0 H0 σ G H o _ fun v G1 H1 o1 u1 r1 => by
  cases r1
  exact ⟨b, rfl, q G1 H1 o1 u1⟩
theorem evt_and {a b : Bool} (h1 : EvT K t ε a) (h2 : a = true → EvT K u ε b) : EvT K (tAnd t u) ε (a && b) := fun G0 H0 σ G H o Q q => h1 G0 H0 σ G H o _ fun G1 H1 o1 u1 => by
  cases a with
  | true =>
    rw [if_pos rfl]
    exact h2 rfl G0 H0 σ G1 H1 o1 Q fun G2 H2 o2 u2 => q G2 H2 o2 (u1.trans u2)
  | false =>
    rw [if_neg Bool.false_ne_true]
    exact q G1 H1 o1 u1
theorem evt_or {a b : Bool} (h1 : EvT K t ε a) (h2 : a = false → EvT K u ε b) : EvT K (tOr t u) ε (a || b) := fun G0 H0 σ G H o Q q => h1 G0 H0 σ G H o _ fun G1 H1 o1 u1 => by
  cases a with
  | true =>
    rw [if_pos rfl]
    exact q G1 H1 o1 u1
  | false =>
    rw [if_neg Bool.false_ne_true]
    exact h2 rfl G0 H0 σ G1 H1 o1 Q fun G2 H2 o2 u2 => q G2 H2 o2 (u1.trans u2)
theorem evt_not {a : Bool} (h : EvT K t ε a) : EvT K (tNot t) ε (!a) := fun G0 H0 σ G H o Q q => h G0 H0 σ G H o _ q
theorem evt_yes : EvT K tYes ε true := fun G0 H0 σ G H o Q q => q G H o (.refl o.up.le)
theorem evt_is {a b : Bool} (h : EvT K t ε a) (e : a = b) : EvT K t ε b := e ▸ h
theorem evd_is {a b : Dat} (h : EvD K te ε a) (e : a = b) : EvD K te ε b := e ▸ h
theorem evh_is {a b : Dat} (h : EvH K te ε a) (e : a = b) : EvH K te ε b := e ▸ h
theorem evn_is {a b : List Dat} (h : EvN K te ε a) (e : a = b) : EvN K te ε b := e ▸ h
theorem evh_and {a b : Bool} (h1 : EvH K ta ε (.bl a)) (h2 : a = true → EvH K tb ε (.bl b)) : EvH K (tAndV ta tb) ε (.bl (a && b)) := fun G0 H0 σ G H o Q q => h1 G0 H0 σ G H o _ fun v G1 H1 o1 u1 r1 => by
  cases r1
  refine ⟨a, rfl, ?_⟩
  cases a with
  | true =>
    rw [if_pos rfl]
    exact h2 rfl G0 H0 σ G1 H1 o1 Q fun v G2 H2 o2 u2 r2 => q v G2 H2 o2 (u1.trans u2) r2
  | false =>
    rw [if_neg Bool.false_ne_true]
    exact q _ G1 H1 o1 u1 (.bl _)
theorem evh_or {a b : Bool} (h1 : EvH K ta ε (.bl a)) (h2 : a = false → EvH K tb ε (.bl b)) : EvH K (tOrV ta tb) ε (.bl (a || b)) := fun G0 H0 σ G H o Q q => h1 G0 H0 σ G H o _ fun v G1 H1 o1 u1 r1 => by
  cases r1
  refine ⟨a, rfl, ?_⟩
  cases a with
  | true =>
    rw [if_pos rfl]
    exact q _ G1 H1 o1 u1 (.bl _)
  | false =>
    rw [if_neg Bool.false_ne_true]
    exact h2 rfl G0 H0 σ G1 H1 o1 Q fun v G2 H2 o2 u2 r2 => q v G2 H2 o2 (u1.trans u2) r2
theorem evh_not {a : Bool} (h1 : EvH K ta ε (.bl a)) : EvH K (tNotV ta) ε (.bl (!a)) := fun G0 H0 σ G H o Q q => h1 G0 H0 σ G H o _ fun v G1 H1 o1 u1 r1 => by
  cases r1
  exact ⟨a, rfl, q _ G1 H1 o1 u1 (.bl _)⟩
theorem evd_if {b : Bool} (h : EvT K t ε b) (h1 : b = true → EvD K ta ε x) (h2 : b = false → EvD K tb ε y) : EvD K (tIf t ta tb) ε (if b = true then x else y) := fun G0 H0 σ G H o Q q => h G0 H0 σ G H o _ fun G1 H1 o1 u1 => by
  cases b with
  | true =>
    rw [if_pos rfl] at q ⊢
    exact h1 rfl G0 H0 σ G1 H1 o1 Q fun v G2 H2 o2 u2 r2 => q v G2 H2 o2 (u1.trans u2) r2
  | false =>
    rw [if_neg Bool.false_ne_true] at q ⊢
    exact h2 rfl G0 H0 σ G1 H1 o1 Q fun v G2 H2 o2 u2 r2 => q v G2 H2 o2 (u1.trans u2) r2

/-! ### slices -/
theorem evo_none : EvO K tNoPart ε none := fun G0 H0 σ G H o Q q => q G H o (.refl o.up.le)
theorem evo_some {i : Int} (h : EvH K te ε (.int i)) : EvO K (tPart te) ε (some i) := fun G0 H0 σ G H o Q q => h G0 H0 σ G H o _ fun v G1 H1 o1 u1 r1 => by
  cases r1
  exact ⟨i, rfl, q G1 H1 o1 u1⟩
def cutD (xs : List Dat) (lo hi : Option Int) : List Dat := (xs.drop (HT.sIx xs.length 0 lo)).take (HT.sIx xs.length xs.length hi - HT.sIx xs.length 0 lo)
theorem RL.cut {G : Hp} {vs : List V} {ds : List Dat} (h : RL K G vs ds) (lo hi : Option Int) : RL K G (cutV vs lo hi) (cutD ds lo hi) := by
  unfold cutV cutD
  rw [h.len]
  exact (h.drop _).take _
theorem evn_slL {tl th : TO} {lo hi : Option Int} (h : EvD K te ε (.lst ds)) (h1 : EvO K tl ε lo) (h2 : EvO K th ε hi) : EvN K (tSl (rSlL K) te tl th) ε (cutD ds lo hi) := fun G0 H0 σ G H o Q q =>
  h G0 H0 σ G H o _ fun v G1 H1 o1 u1 r1 => h1 G0 H0 σ G1 H1 o1 _ fun G2 H2 o2 u2 => h2 G0 H0 σ G2 H2 o2 _ fun G3 H3 o3 u3 => by
    have r3 := r1.up (u2.trans u3).g
    cases r3 with
    | @lst a xs _ s r =>
      exact ⟨a, xs, rfl, o3.up.le.seq s, fun p hp =>
        have u4 : Up G3 H3 G3 (upd H3 p (.lst (cutV xs lo hi))) := .own o3.up.le hp
        q p _ _ _ (o3.step u4) (((u1.trans u2).trans u3).trans u4) (((u1.trans u2).trans u3).h.free hp) upd_same (o3.up.le.free hp) (r.cut lo hi)⟩
end
end Pu
set_option Elab.async false
set_option linter.all false
set_option maxRecDepth 100000
set_option maxHeartbeats 4000000
set_option autoImplicit false
namespace Pu
open PySem PySem.Spec PyProof.Rows L2

/-! ### statements -/
inductive Out where
  | nx (ε : Sta)
  | bk (ε : Sta)
  | ct (ε : Sta)
  | ret (r : Res)
  /-- a value, with the cells -/
  | retX (x : Vl) (ε : Sta)
/-- cells only grow -/
def Gr (a b : Gh) : Prop := b.g = a.g ∧ ∃ β, b.a = a.a ++ β
theorem Gr.refl {a : Gh} : Gr a a := ⟨rfl, [], (List.append_nil _).symm⟩
theorem Gr.trans {a b c : Gh} (x : Gr a b) (y : Gr b c) : Gr a c := by
  obtain ⟨e1, β, e2⟩ := x
  obtain ⟨e3, γ, e4⟩ := y
  exact ⟨e3.trans e1, β ++ γ, by rw [e4, e2, List.append_assoc]⟩
structure Wants (K : PySem.W.Frag) (G0 : Gh) (H0 B : Hp) (D : Ends) (Φ : Out → Prop) : Prop where
  nx : ∀ G1 ε σ G H, Gr G0 G1 → Φ (.nx ε) → Ok K G1 H0 ε σ G H → Same B G → D.nx σ H
  bk : ∀ G1 ε σ G H, Gr G0 G1 → Φ (.bk ε) → Ok K G1 H0 ε σ G H → Same B G → D.bk σ H
  ct : ∀ G1 ε σ G H, Gr G0 G1 → Φ (.ct ε) → Ok K G1 H0 ε σ G H → Same B G → D.ct σ H
  rt : ∀ r v G H, Φ (.ret r) → ResOk K G0.g H0 r v G H → D.rt v H
  rx : ∀ x ε v G1 σ G H, Gr G0 G1 → Φ (.retX x ε) → Ok K G1 H0 ε σ G H → VlOk K G1.a G v x → D.rt v H
theorem Wants.up {K : PySem.W.Frag} {G0 : Gh} {H0 B B' : Hp} {D : Ends} {Φ : Out → Prop} (w : Wants K G0 H0 B D Φ) (s : Same B B') : Wants K G0 H0 B' D Φ :=
  ⟨fun G1 ε σ G H g p o q => w.nx G1 ε σ G H g p o (s.trans q), fun G1 ε σ G H g p o q => w.bk G1 ε σ G H g p o (s.trans q), fun G1 ε σ G H g p o q => w.ct G1 ε σ G H g p o (s.trans q), w.rt, w.rx⟩
theorem Wants.gr {K : PySem.W.Frag} {G0 G2 : Gh} {H0 B : Hp} {D : Ends} {Φ : Out → Prop} (w : Wants K G0 H0 B D Φ) (g2 : Gr G0 G2) : Wants K G2 H0 B D Φ :=
  ⟨fun G1 ε σ G H g p o q => w.nx G1 ε σ G H (g2.trans g) p o q, fun G1 ε σ G H g p o q => w.bk G1 ε σ G H (g2.trans g) p o q, fun G1 ε σ G H g p o q => w.ct G1 ε σ G H (g2.trans g) p o q, fun r v G H p q => w.rt r v G H p (by rw [← g2.1]; exact q), fun x ε v G1 σ G H g p o q => w.rx x ε v G1 σ G H (g2.trans g) p o q⟩
def ExS (K : PySem.W.Frag) (ts : TS) (ε : Sta) (Φ : Out → Prop) : Prop := ∀ (G0 : Gh) (H0 : Hp) (σ : L2.St) (G H : Hp) (D : Ends), Ok K G0 H0 ε σ G H → Wants K G0 H0 G D Φ → ts D σ H

/-- where a block's end goes on with another one -/
def Then (Φ : Out → Prop) (Ψ : Sta → Prop) : Out → Prop
  | .nx ε => Ψ ε
  | o => Φ o
section
variable {K : PySem.W.Frag} {ε : Sta} {te ta tb tx : TE} {tu : TA} {tt : TT} {x y z d : Dat} {ds es : List Dat} {s t u : TS} {Φ : Out → Prop}
theorem ex_imp {Φ' : Out → Prop} (h : ExS K t ε Φ') (i : ∀ o, Φ' o → Φ o) : ExS K t ε Φ := fun G0 H0 σ G H D o w => h G0 H0 σ G H D o
  ⟨fun G1 ε σ G H g p => w.nx G1 ε σ G H g (i _ p), fun G1 ε σ G H g p => w.bk G1 ε σ G H g (i _ p), fun G1 ε σ G H g p => w.ct G1 ε σ G H g (i _ p), fun r v G H p => w.rt r v G H (i _ p), fun x ε v G1 σ G H g p => w.rx x ε v G1 σ G H g (i _ p)⟩
theorem ex_cut (Ψ : Sta → Prop) (h1 : ExS K t ε (Then Φ Ψ)) (h2 : ∀ ε', Ψ ε' → ExS K u ε' Φ) : ExS K (tSeq t u) ε Φ := fun G0 H0 σ G H D o w => h1 G0 H0 σ G H _ o
  ⟨fun G1 ε' σ' G' H' g p o' sm => h2 ε' p G1 H0 σ' G' H' D o' ((w.gr g).up sm), fun G1 ε σ G H g p => w.bk G1 ε σ G H g p, fun G1 ε σ G H g p => w.ct G1 ε σ G H g p, fun r v G H p => w.rt r v G H p, fun x ε v G1 σ G H g p => w.rx x ε v G1 σ G H g p⟩
theorem ex_assoc (h : ExS K (tSeq s (tSeq t u)) ε Φ) : ExS K (tSeq (tSeq s t) u) ε Φ := h
theorem ex_next (h : Φ (.nx ε)) : ExS K tNext ε Φ := fun G0 H0 σ G H D o w => w.nx G0 ε σ G H .refl h o (.refl _)
theorem ex_seqN (h : ExS K u ε Φ) : ExS K (tSeq tNext u) ε Φ := h
theorem ex_break (h : Φ (.bk ε)) : ExS K tBreak ε Φ := fun G0 H0 σ G H D o w => w.bk G0 ε σ G H .refl h o (.refl _)
theorem ex_cont (h : Φ (.ct ε)) : ExS K tCont ε Φ := fun G0 H0 σ G H D o w => w.ct G0 ε σ G H .refl h o (.refl _)
/-- a statement alone, as one that ends -/
theorem ex_one (h : ExS K (tSeq t tNext) ε Φ) : ExS K t ε Φ := h
-- name = e
theorem ex_set {i : Nat} (h : EvD K te ε d) (k : ExS K u (ε.set i (.dat d)) Φ) : ExS K (tSeq (tAsg te (gName i)) u) ε Φ := fun G0 H0 σ G H D o w =>
  h G0 H0 σ G H o _ fun v G1 H1 o1 u1 r1 => k G0 H0 _ G1 H1 D (o1.storeD r1) (w.up u1.g)
theorem ex_setN {i : Nat} (h : EvN K te ε ds) (k : ExS K u (ε.set i (.own ds)) Φ) : ExS K (tSeq (tAsg te (gName i)) u) ε Φ := fun G0 H0 σ G H D o w =>
  h G0 H0 σ G H o _ fun p xs G1 H1 o1 u1 hp hp1 hg r1 => k G0 H0 _ G1 H1 D
    (o1.storeX ⟨p, xs, rfl, hp1, hg, o.up.h.free hp, r1⟩ (fun l z => by cases z) fun _ => ⟨p, rfl, o.freshA hp, fun j f _ hj mj => o.fresh hp hj mj⟩) (w.up u1.g)
theorem ex_setND {i : Nat} {ks : List Key} (h : EvND K te ε ks ds) (k : ExS K u (ε.set i (.ownD ks ds)) Φ) : ExS K (tSeq (tAsg te (gName i)) u) ε Φ := fun G0 H0 σ G H D o w =>
  h G0 H0 σ G H o _ fun p xs G1 H1 o1 u1 hp hp1 hg e r1 => k G0 H0 _ G1 H1 D
    (o1.storeX ⟨p, xs, rfl, hp1, hg, o.up.h.free hp, e, r1⟩ (fun l z => by cases z) fun _ => ⟨p, rfl, o.freshA hp, fun j f _ hj mj => o.fresh hp hj mj⟩) (w.up u1.g)
/-- our own list stands from now on -/
theorem ex_stand {i : Nat} (h : ε[i]? = some (.own ds)) (k : ExS K t (ε.set i (.dat (.lst ds))) Φ) : ExS K t ε Φ := fun G0 H0 σ G H D o w => by
  obtain ⟨p, xs, _, hg, _, _, o1⟩ := o.stand h
  exact k G0 H0 σ _ H D o1 (w.up (same_upd hg))
theorem ex_drop (i : Nat) (k : ExS K t (ε.set i .no) Φ) : ExS K t ε Φ := fun G0 H0 σ G H D o w => by
  by_cases hi : i < σ.length
  · have q := o.drop (i := i) (σ[i])
    rw [List.set_getElem_self hi] at q
    exact k G0 H0 σ G H D q w
  · have e : ε.set i .no = ε := Sta.set_out (by have := o.len; omega)
    rw [e] at k
    exact k G0 H0 σ G H D o w
theorem ex_expr (h : EvH K te ε d) (k : ExS K u ε Φ) : ExS K (tSeq (tDrop te) u) ε Φ := fun G0 H0 σ G H D o w =>
  h G0 H0 σ G H o _ fun v G1 H1 o1 u1 r1 => k G0 H0 _ G1 H1 D o1 (w.up u1.g)
theorem ex_ret (h : EvD K te ε d) (k : Φ (.ret (.dat d))) : ExS K (tRet te) ε Φ := fun G0 H0 σ G H D o w =>
  h G0 H0 σ G H o _ fun v G1 H1 o1 u1 r1 => w.rt (.dat d) v G1 H1 k ⟨o1.up, r1⟩
theorem ex_retN (h : EvN K te ε ds) (k : Φ (.ret (.new ds))) : ExS K (tRet te) ε Φ := fun G0 H0 σ G H D o w =>
  h G0 H0 σ G H o _ fun p xs G1 H1 o1 u1 hp hp1 hg r1 => w.rt (.new ds) _ G1 H1 k ⟨p, xs, rfl, o1.up, hp1, hg, o.up.h.free hp, r1⟩
theorem ex_retND {ks : List Key} (h : EvND K te ε ks ds) (k : Φ (.ret (.newD ks ds))) : ExS K (tRet te) ε Φ := fun G0 H0 σ G H D o w =>
  h G0 H0 σ G H o _ fun p xs G1 H1 o1 u1 hp hp1 hg e r1 => w.rt (.newD ks ds) _ G1 H1 k ⟨p, xs, rfl, o1.up, hp1, hg, o.up.h.free hp, e, r1⟩
theorem ex_retO {i : Nat} (h : ε[i]? = some (.own ds)) (k : Φ (.ret (.new ds))) : ExS K (tRet (tVar i)) ε Φ := fun G0 H0 σ G H D o w => by
  obtain ⟨v, a, p, xs, e, hp, hg, h0, r⟩ := o.get i _ h
  subst e
  exact ⟨_, a, w.rt (.new ds) _ G H k ⟨p, xs, rfl, o.up, hp, hg, h0, r⟩⟩
theorem ex_retOD {i : Nat} {ks : List Key} (h : ε[i]? = some (.ownD ks ds)) (k : Φ (.ret (.newD ks ds))) : ExS K (tRet (tVar i)) ε Φ := fun G0 H0 σ G H D o w => by
  obtain ⟨v, a, p, xs, e, hp, hg, h0, e2, r⟩ := o.get i _ h
  subst e
  exact ⟨_, a, w.rt (.newD ks ds) _ G H k ⟨p, xs, rfl, o.up, hp, hg, h0, e2, r⟩⟩
theorem ex_retNone (k : Φ (.ret (.dat .non))) : ExS K tRetN ε Φ := fun G0 H0 σ G H D o w => w.rt (.dat .non) .non G H k ⟨o.up, .non⟩
/-- two ways, each to the end -/
theorem ex_if {b : Bool} (h : EvT K tt ε b) (h1 : b = true → ExS K s ε Φ) (h2 : b = false → ExS K t ε Φ) : ExS K (tIfS tt s t) ε Φ := fun G0 H0 σ G H D o w =>
  h G0 H0 σ G H o _ fun G1 H1 o1 u1 => by
    cases b with
    | true =>
      rw [if_pos rfl]
      exact h1 rfl G0 H0 σ G1 H1 D o1 (w.up u1.g)
    | false =>
      rw [if_neg Bool.false_ne_true]
      exact h2 rfl G0 H0 σ G1 H1 D o1 (w.up u1.g)
theorem ex_ifs {b : Bool} (h : EvT K tt ε b) (h1 : b = true → ExS K (tSeq s u) ε Φ) (h2 : b = false → ExS K (tSeq t u) ε Φ) : ExS K (tSeq (tIfS tt s t) u) ε Φ := fun G0 H0 σ G H D o w =>
  h G0 H0 σ G H o _ fun G1 H1 o1 u1 => by
    cases b with
    | true =>
      rw [if_pos rfl]
      exact h1 rfl G0 H0 σ G1 H1 D o1 (w.up u1.g)
    | false =>
      rw [if_neg Bool.false_ne_true]
      exact h2 rfl G0 H0 σ G1 H1 D o1 (w.up u1.g)
/-- behind a statement that always leaves -/
theorem ex_left (h : ExS K t ε (Then Φ fun _ => False)) : ExS K (tSeq t u) ε Φ := ex_cut _ h fun _ z => z.elim
-- xs.append(e), our own list
theorem ex_app {i : Nat} (h : ε[i]? = some (.own ds)) (he : EvD K te ε d) (hl : ds.length < 16777216) (k : ExS K u (ε.set i (.own (ds ++ [d]))) Φ) :
    ExS K (tSeq (tDrop (tBM K "list" rAppend (tVar i) (tCons te tNil))) u) ε Φ := fun G0 H0 σ G H D o w => by
  obtain ⟨v, a, p, xs, e, hp, hg, h0, r⟩ := o.get i _ h
  subst e
  refine ⟨_, a, .inl ⟨rfl, xs, .inl (.inl hp)⟩, he G0 H0 σ G H o _ fun v G1 H1 o1 u1 r1 => ?_⟩
  have hp1 := u1.h _ _ hp
  have hg1 := u1.new p hg (by rw [hp]; simp)
  refine ⟨p, xs, v, rfl, rfl, hp1, size_lt (by rw [r.len]; exact hl), ?_⟩
  exact k G0 H0 σ G1 _ D (o1.write (e := .own ds) h rfl a ⟨p, _, rfl, upd_same, hg1, h0, (r.up u1.g).app (.one r1)⟩ rfl) (w.up u1.g)
theorem ex_appS {i : Nat} (h : ε[i]? = some (.own ds)) (he : EvD K te ε d) (hl : ds.length < 16777216) (k : Φ (.nx (ε.set i (.own (ds ++ [d]))))) :
    ExS K (tDrop (tBM K "list" rAppend (tVar i) (tCons te tNil))) ε Φ := ex_one (ex_app h he hl (ex_next k))
-- name op= e
theorem ex_aug {i : Nat} {f : Int → Int → Int} {a b : Int} (h : ε[i]? = some (.dat (.int a))) (he : EvH K te ε (.int b)) (k : ExS K u (ε.set i (.dat (.int (f a b)))) Φ) : ExS K (tSeq (tAug i te (ipI f)) u) ε Φ := fun G0 H0 σ G H D o w => by
  obtain ⟨v, e1, x, e2, r⟩ := o.get i _ h
  subst e2
  cases r
  exact ⟨_, e1, he G0 H0 σ G H o _ fun v G1 H1 o1 u1 r1 => by
    cases r1
    exact ⟨a, b, rfl, rfl, k G0 H0 _ G1 H1 D (o1.storeD (.int _)) (w.up u1.g)⟩⟩
end

/-! ### defs -/
def startE (n : Nat) (ds : List Dat) : Sta := ⟨ds.map Sl.dat ++ List.replicate (n - ds.length) .no, []⟩
def startX (n : Nat) (xs : List Vl) (ω : List Cell) : Sta := ⟨xs.map Vl.sl ++ List.replicate (n - xs.length) .no, ω⟩
theorem startE_X {n : Nat} {ds : List Dat} : startE n ds = startX n (ds.map Vl.dat) [] := by
  unfold startE startX
  rw [List.map_map, List.length_map]
  rfl
theorem VlsOk.len {K : PySem.W.Frag} {α : List Addr} {G : Hp} {vs : List V} {xs : List Vl} (h : VlsOk K α G vs xs) : vs.length = xs.length := by
  induction h with
  | nil => rfl
  | cons _ _ ih => simp [ih]
theorem VlsOk.getD {K : PySem.W.Frag} {α : List Addr} {G : Hp} {vs : List V} {xs : List Vl} (h : VlsOk K α G vs xs) : ∀ {i : Nat} {x : Vl}, xs[i]? = some x → ∃ v, vs[i]? = some v ∧ VlOk K α G v x := by
  induction h with
  | nil => intro i x e; simp at e
  | cons a _ ih =>
    intro i x e
    cases i with
    | zero => simp at e; subst e; exact ⟨_, rfl, a⟩
    | succ i =>
      obtain ⟨v, e1, q⟩ := ih (i := i) (by simpa using e)
      exact ⟨v, by simpa using e1, q⟩
theorem RL.vls {K : PySem.W.Frag} {α : List Addr} {G : Hp} : ∀ {vs : List V} {ds : List Dat}, RL K G vs ds → VlsOk K α G vs (ds.map Vl.dat)
  | [], _, h => by cases h; exact .nil
  | _ :: vs, _, h => by
    cases h with
    | cons a b => exact .cons a (RL.vls b)
theorem VlsOk.rl {K : PySem.W.Frag} {α : List Addr} {G : Hp} : ∀ {vs : List V} {ds : List Dat}, VlsOk K α G vs (ds.map Vl.dat) → RL K G vs ds
  | _, [], h => by cases h; exact .nil
  | _, d :: ds, h => by
    cases h with
    | cons a b => exact .cons a (VlsOk.rl b)
theorem Ok.base {K : PySem.W.Frag} {G H : Hp} (e : Same G H) : Ok K ⟨G, []⟩ H ⟨[], []⟩ [] G H :=
  ⟨.refl e, fun i e h => Sta.nil h, fun i j e f p _ h => Sta.nil h, rfl, rfl, List.nodup_nil, fun l a h => (by cases h), fun i l h => Sta.nil h, fun i e p h => Sta.nil h⟩
theorem start_okX {K : PySem.W.Frag} {N : List Str} {vs : List V} {xs : List Vl} {ω : List Cell} {G0 : Gh} {H0 G H : Hp} (o : Ok K G0 H0 ⟨[], ω⟩ [] G H) (r : VlsOk K G0.a G vs xs) : Ok K G0 H0 (startX N.length xs ω) (L2.start N vs) G H := by
  have hl := r.len
  have at' : ∀ (i : Nat) (e : Sl), (startX N.length xs ω)[i]? = some e → (e = .no ∧ (L2.start N vs)[i]? = some none) ∨ ∃ v x, e = Vl.sl x ∧ VlOk K G0.a G v x ∧ (L2.start N vs)[i]? = some (some v) := fun i e h => by
    have h : (xs.map Vl.sl ++ List.replicate (N.length - xs.length) .no)[i]? = some e := h
    unfold L2.start
    rw [List.getElem?_append] at h ⊢
    simp only [List.length_map] at h ⊢
    split at h
    · rename_i hi
      rw [if_pos (by omega)]
      rw [List.getElem?_map] at h ⊢
      cases q : xs[i]? with
      | none => rw [q] at h; cases h
      | some d =>
        rw [q] at h
        cases h
        obtain ⟨v, e1, r1⟩ := r.getD q
        rw [e1]
        exact .inr ⟨v, d, rfl, r1, rfl⟩
    · rename_i hi
      rw [if_neg (by omega)]
      rw [List.getElem?_replicate] at h ⊢
      split at h
      · rename_i h2
        cases h
        rw [if_pos (by omega)]
        exact .inl ⟨rfl, rfl⟩
      · cases h
  have nm : ∀ (i : Nat) (e : Sl), (startX N.length xs ω)[i]? = some e → e.mine = false := fun i e h => by
    rcases at' i e h with ⟨rfl, _⟩ | ⟨v, x, rfl, _⟩
    · rfl
    · cases x <;> rfl
  refine ⟨o.up, fun i e h => ?_, fun i j e f p _ hi _ mi => ?_, by simp [startX, L2.start, hl], o.al.len, o.al.nd, o.al.cell, fun i l h => ?_, fun i e p h m => ?_⟩
  · rcases at' i e h with ⟨rfl, q⟩ | ⟨v, x, rfl, q1, q⟩
    · exact ⟨_, q, trivial⟩
    · cases x with
      | dat d => exact ⟨_, q, v, rfl, q1⟩
      | loc l => exact ⟨_, q, trivial⟩
  · rw [nm i e hi] at mi
    cases mi
  · rcases at' i _ h with ⟨z, q⟩ | ⟨v, x, e, q1, q⟩
    · cases z
    · cases x with
      | dat d => cases e
      | loc l' =>
        cases e
        obtain ⟨a, q2, q3⟩ := q1
        exact ⟨a, q2, by rw [q, q3]⟩
  · rw [nm i e h] at m
    cases m
theorem start_ok {K : PySem.W.Frag} {N : List Str} {vs : List V} {ds : List Dat} {G H : Hp} (e : Same G H) (r : RL K G vs ds) : Ok K ⟨G, []⟩ H (startE N.length ds) (L2.start N vs) G H := by
  rw [startE_X]
  exact start_okX (.base e) r.vls
def Done (r : Res) : Out → Prop
  | .ret r' => r' = r
  | .nx _ => r = .dat .non
  | _ => False
section
variable {P : Program} {w : World} {K : PySem.W.Frag} {mg : Str → Option Value} {base : Heap}
end
/-- the rule of a def, however it stands -/
def FnRule (K : PySem.W.Frag) (qual : Str) (st : Stmt) (f : Addr) (fd : FuncData) : Prop := ∀ (P : Program) (w : World) (mg : Str → Option Value) (base : Heap) (N ps : List Str) (k : Nat) (sp : Sp), FnScope N ps (defScope st) → (∀ vs H Q E, sp vs H Q E → vs.length = ps.length) →
    (∀ (cdv : Value) (A : Around) (outer : List Env) (s : Shared) (H : Hp) (vs : List V) (Q : VK) (E : XK), Room k (A.deeper (envOfC qual (defScope st) s.heap.objs.size f cdv)) → sp vs H Q E →
      ∃ t, PSs (cxOf CX0 P w K mg base N qual (defScope st) f cdv A outer s H E).nox (defBody st) t ∧ t { nx := fun _ H' => Q .non H', rt := Q } (L2.start N vs) H) → FnOk P w K mg base CX0 (k + 1) f fd ps sp
theorem rule_fun {K : PySem.W.Frag} {x qual : Str} {st : Stmt} {f : Addr} {fd : FuncData} (F : Fun K x qual st f fd) : FnRule K qual st f fd := fun P w mg base N ps k sp S len hb => F.ok S len hb
theorem rule_funD {K : PySem.W.Frag} {x qual : Str} {st : Stmt} {f : Addr} {fd : FuncData} {dvs : List V} {kws : List (Str × V)} (F : FunD K x qual (defArgs st) (defBody st) (defScope st) dvs kws f fd) : FnRule K qual st f fd := fun P w mg base N ps k sp S len hb =>
  F.ok S len fun cdv A outer s H vs Q E hr h => let ⟨t, a, b⟩ := hb cdv A outer s H vs Q E hr h; ⟨t, a.nox, b⟩
section
variable {P : Program} {w : World} {K : PySem.W.Frag} {mg : Str → Option Value} {base : Heap}
/-- a def that is a function of data, by its body -/
theorem ok_def {qual : Str} {st : Stmt} {f : Addr} {fd : FuncData} {N ps : List Str} {k : Nat} {Pm : List Dat → Res → Prop} (F : FnRule K qual st f fd) (S : FnScope N ps (defScope st)) (hl : ∀ ds r, Pm ds r → ds.length = ps.length)
    (hbody : ∀ (cdv : Value) (A : Around) (outer : List Env) (s : Shared) (H : Hp) (E : XK), Room k (A.deeper (envOfC qual (defScope st) s.heap.objs.size f cdv)) →
      ∃ t, PSs (cxOf CX0 P w K mg base N qual (defScope st) f cdv A outer s H E).nox (defBody st) t ∧ ∀ ds r, Pm ds r → ExS K t (startE N.length ds) (Done r)) : FnOk P w K mg base CX0 (k + 1) f fd ps (spF K Pm) := by
  refine F P w mg base N ps k _ S (fun vs H Q E h => ?_) (fun cdv A outer s H vs Q E hr h => ?_)
  · obtain ⟨G, ds, r, _, hR, hP, _⟩ := h
    rw [hR.len]
    exact hl ds r hP
  · obtain ⟨G, ds, r, hG, hR, hP, q⟩ := h
    obtain ⟨t, hT, hE⟩ := hbody cdv A outer s H E hr
    refine ⟨t, hT, hE ds r hP ⟨G, []⟩ H _ G H _ (start_ok hG hR) ⟨fun G1 ε σ G' H' g p o _ => ?_, fun _ ε σ G' H' g p => p.elim, fun _ ε σ G' H' g p => p.elim, fun r' v G' H' p o => ?_, fun _ _ _ _ _ _ _ _ p => p.elim⟩⟩
    · have p' : r = .dat .non := p
      subst p'
      have u := o.up
      rw [g.1] at u
      exact q .non G' H' ⟨u, .non⟩
    · have p' : r' = r := p
      subst p'
      exact q v G' H' o
end

/-! ### loops -/
/-- what the loop's turn must come to -/
def Turns (Φ : Out → Prop) (Nx Bk : Sta → Prop) : Out → Prop
  | .nx ε => Nx ε
  | .ct ε => Nx ε
  | .bk ε => Bk ε
  | .ret r => Φ (.ret r)
  | .retX x ε => Φ (.retX x ε)
section
variable {K : PySem.W.Frag} {ε : Sta} {te ta tb tx : TE} {tu : TA} {tt : TT} {x y z d : Dat} {ds es : List Dat} {s t u : TS} {Φ : Out → Prop}
/-- an iterator that walks the data ds, as long as B stands -/
def Walks (K : PySem.W.Frag) (J : It) (B : Hp) (ds : List Dat) : Prop := ∀ (i : Nat) (G H : Hp), Same B G → Same G H →
  (∀ d, ds[i]? = some d → J.go i H ∧ ∀ x H', J.yld i H x H' → ∃ G', Up G H G' H' ∧ R K G' x d) ∧ (ds.length ≤ i → J.stop i H)
def EvW (K : PySem.W.Frag) (wi : TI) (ε : Sta) (ds : List Dat) : Prop := ∀ (G0 : Gh) (H0 : Hp) (σ : L2.St) (G H : Hp), Ok K G0 H0 ε σ G H → ∀ Q : It → Hp → Prop, (∀ J G' H', Ok K G0 H0 ε σ G' H' → Up G H G' H' → Walks K J G' ds → Q J H') → wi σ H Q
/-- a target takes a datum: the slots behind it -/
def EvG (K : PySem.W.Frag) (g : TG) (ε : Sta) (d : Dat) (ε' : Sta) : Prop := ∀ (G0 : Gh) (H0 : Hp) (σ : L2.St) (G H : Hp) (v : V), Ok K G0 H0 ε σ G H → R K G v d → ∀ Q : L2.St → Hp → Prop, (∀ σ', Ok K G0 H0 ε' σ' G H → Q σ' H) → g v σ H Q
def EvGs (K : PySem.W.Frag) (g : TGs) (ε : Sta) (ds : List Dat) (ε' : Sta) : Prop := ∀ (G0 : Gh) (H0 : Hp) (σ : L2.St) (G H : Hp) (vs : List V), Ok K G0 H0 ε σ G H → RL K G vs ds → ∀ Q : L2.St → Hp → Prop, (∀ σ', Ok K G0 H0 ε' σ' G H → Q σ' H) → g vs σ H Q
theorem eg_name {i : Nat} : EvG K (gName i) ε d (ε.set i (.dat d)) := fun G0 H0 σ G H v o r Q q => q _ (o.storeD r)
theorem egs_nil : EvGs K gNil ε [] ε := fun G0 H0 σ G H v o r Q q => by
  cases r
  exact ⟨rfl, q σ o⟩
theorem egs_cons {g : TG} {gs : TGs} {ε' ε'' : Sta} (h : EvG K g ε d ε') (hr : EvGs K gs ε' ds ε'') : EvGs K (gCons g gs) ε (d :: ds) ε'' := fun G0 H0 σ G H v o r Q q => by
  cases r with
  | cons a b => exact ⟨_, _, rfl, h G0 H0 σ G H _ o a _ fun σ' o' => hr G0 H0 σ' G H _ o' b _ q⟩
theorem eg_tup {gs : TGs} {n : Nat} {ε' : Sta} (h : EvGs K gs ε ds ε') (hn : ds.length = n := by rfl) : EvG K (gTup K n gs) ε (.tup ds) ε' := fun G0 H0 σ G H v o r Q q => by
  cases r with
  | tup s r => exact ⟨_, _, rfl, sameT o.up.le (.inl (.inl s)), by rw [r.len]; exact hn, h G0 H0 σ G H _ o r Q q⟩
theorem eg_two {i j : Nat} {a b : Dat} : EvG K (gTup K 2 (gCons (gName i) (gCons (gName j) gNil))) ε (.tup [a, b]) ((ε.set i (.dat a)).set j (.dat b)) := eg_tup (egs_cons eg_name (egs_cons eg_name egs_nil))
/-- for target in a walk: I tells the slots by the turn -/
theorem ex_for {wi : TI} {g : TG} (I : Nat → Sta → Prop) (h : EvW K wi ε ds) (h0 : I 0 ε)
    (hs : ∀ i d ε', ds[i]? = some d → I i ε' → ∃ ε'', EvG K g ε' d ε'' ∧ ExS K t ε'' (Turns Φ (I (i + 1)) fun e => ExS K u e Φ)) (hd : ∀ ε', I ds.length ε' → ExS K u ε' Φ) :
    ExS K (tSeq (tFor wi g t) u) ε Φ := fun G0 H0 σ G H D o w => h G0 H0 σ G H o _ fun J G1 H1 o1 u1 W => by
  refine ⟨fun i m σ' H' => m = ds.length - i ∧ i ≤ ds.length ∧ ∃ ε' G' G2, Gr G0 G2 ∧ I i ε' ∧ Ok K G2 H0 ε' σ' G' H' ∧ Same G1 G', ⟨ds.length, by simp, Nat.zero_le _, ε, G1, G0, .refl, h0, o1, .refl _⟩, ?_⟩
  rintro i m σ' H' ⟨rfl, hi, ε', G', G9, g9, hI, o', s'⟩
  obtain ⟨W1, W2⟩ := W i G' H' s' o'.up.le
  by_cases hlt : i < ds.length
  · obtain ⟨go, yl⟩ := W1 _ (List.getElem?_eq_getElem hlt)
    obtain ⟨ε'', hg, hb⟩ := hs i _ ε' (List.getElem?_eq_getElem hlt) hI
    refine .inr ⟨go, fun σ2 H2 => ∃ e G2 G8, Gr G0 G8 ∧ I (i + 1) e ∧ Ok K G8 H0 e σ2 G2 H2 ∧ Same G1 G2, fun σ2 H2 ⟨e, G2, G8, g8, a, b, c⟩ => ⟨ds.length - (i + 1), by omega, rfl, hlt, e, G2, G8, g8, a, b, c⟩, fun x H3 y => ?_⟩
    obtain ⟨G3, u3, r3⟩ := yl x H3 y
    have o3 := o'.step u3
    have s3 := s'.trans u3.g
    refine hg G9 H0 σ' G3 H3 x o3 r3 _ fun σ4 o4 => ?_
    have w9 := w.gr g9
    exact hb G9 H0 σ4 G3 H3 _ o4 ⟨fun G8 e σ2 G2 H2 g p o2 s2 => ⟨e, G2, G8, g9.trans g, p, o2, s3.trans s2⟩, fun G8 e σ2 G2 H2 g p o2 s2 => p G8 H0 σ2 G2 H2 D o2 ((w9.gr g).up (u1.g.trans (s3.trans s2))), fun G8 e σ2 G2 H2 g p o2 s2 => ⟨e, G2, G8, g9.trans g, p, o2, s3.trans s2⟩, fun r v G2 H2 p q => w9.rt r v G2 H2 p q, fun x e v G8 σ2 G2 H2 g p o2 q => w9.rx x e v G8 σ2 G2 H2 g p o2 q⟩
  · have e : i = ds.length := by omega
    subst e
    exact .inl ⟨W2 (Nat.le_refl _), hd ε' hI G9 H0 σ' G' H' D o' ((w.gr g9).up (u1.g.trans s'))⟩
/-- .. the usual case: one name, a body by the item's number -/
theorem ex_for1 {wi : TI} {j : Nat} (I : Nat → Sta → Prop) (h : EvW K wi ε ds) (h0 : I 0 ε)
    (hs : ∀ i d ε', ds[i]? = some d → I i ε' → ExS K t (ε'.set j (.dat d)) (Turns Φ (I (i + 1)) fun e => ExS K u e Φ)) (hd : ∀ ε', I ds.length ε' → ExS K u ε' Φ) :
    ExS K (tSeq (tFor wi (gName j) t) u) ε Φ := ex_for I h h0 (fun i d ε' a b => ⟨_, eg_name, hs i d ε' a b⟩) hd

end
end Pu
set_option Elab.async false
set_option linter.all false
set_option maxRecDepth 100000
set_option maxHeartbeats 4000000
set_option autoImplicit false
namespace Pu
open PySem PySem.Spec PyProof.Rows L2
section
variable {K : PySem.W.Frag} {ε : Sta} {te ta tb tx : TE} {tu : TA} {tt : TT} {x y z d : Dat} {ds es : List Dat} {s t u : TS} {Φ : Out → Prop}
/-! ### what is walked -/
theorem walks_list {B : Hp} {a : Addr} {xs : List V} (sq : SqL K B a xs) (rl : RL K B xs ds) : Walks K (Itl K a) B ds := fun i G H s1 s2 =>
  have sH : SqL K H a xs := (s1.trans s2).seq sq
  ⟨fun d hd => by
    obtain ⟨v, hv, r⟩ := rl.getD hd
    exact ⟨⟨xs, v, sH, hv⟩, fun x H' y => by
      obtain ⟨e, y⟩ := y
      subst e
      have := y xs sH
      rw [hv] at this
      cases this
      exact ⟨G, .refl s2, r.up s1⟩⟩, fun hl => ⟨xs, sH, by rw [rl.len]; exact hl⟩⟩
theorem walks_tup {B : Hp} {a : Addr} {xs : List V} (sq : SqT K B a xs) (rl : RL K B xs ds) : Walks K (Itt K a) B ds := fun i G H s1 s2 =>
  have sH : SqT K H a xs := sameT (s1.trans s2) sq
  ⟨fun d hd => by
    obtain ⟨v, hv, r⟩ := rl.getD hd
    exact ⟨⟨xs, v, sH, hv⟩, fun x H' y => by
      obtain ⟨e, y⟩ := y
      subst e
      have := y xs sH
      rw [hv] at this
      cases this
      exact ⟨G, .refl s2, r.up s1⟩⟩, fun hl => ⟨xs, sH, by rw [rl.len]; exact hl⟩⟩
theorem evw_list (h : EvD K te ε (.lst ds)) : EvW K (iList K te) ε ds := fun G0 H0 σ G H o Q q => h G0 H0 σ G H o _ fun v G1 H1 o1 u1 r1 => by
  cases r1 with
  | lst sq rl => exact ⟨_, rfl, ⟨_, o1.up.le.seq sq⟩, q _ G1 H1 o1 u1 (walks_list sq rl)⟩
theorem evw_tup (h : EvD K te ε (.tup ds)) : EvW K (iTup K te) ε ds := fun G0 H0 σ G H o Q q => h G0 H0 σ G H o _ fun v G1 H1 o1 u1 r1 => by
  cases r1 with
  | tup sq rl => exact ⟨_, rfl, ⟨_, sameT o1.up.le (.inl (.inl sq))⟩, q _ G1 H1 o1 u1 (walks_tup (.inl (.inl sq)) rl)⟩
/-- 0, 1, .. below n -/
def fromto (lo : Int) (n : Nat) : List Dat := (List.range n).map fun (i : Nat) => Dat.int (lo + (i : Int))
theorem fromto_len (lo : Int) (n : Nat) : (fromto lo n).length = n := by simp [fromto]
theorem fromto_get {lo : Int} {n i : Nat} {d : Dat} (h : (fromto lo n)[i]? = some d) : i < n ∧ d = .int (lo + i) := by
  have hi : i < n := by
    have := (List.getElem?_eq_some_iff.mp h).1
    rwa [fromto_len] at this
  refine ⟨hi, ?_⟩
  unfold fromto at h
  rw [List.getElem?_map, List.getElem?_range hi] at h
  cases h
  rfl
theorem walks_range {B : Hp} {lo : Int} {n : Nat} : Walks K (Itr lo n) B (fromto lo n) := fun i G H s1 s2 =>
  ⟨fun d hd => by
    obtain ⟨hi, e⟩ := fromto_get hd
    subst e
    exact ⟨hi, fun x H' y => by
      obtain ⟨e, y⟩ := y
      subst e y
      exact ⟨G, .refl s2, .int _⟩⟩, fun hl => by rw [fromto_len] at hl; exact hl⟩
theorem evw_rng1 {n : Int} (h : EvAH K tu ε [.int n]) (h1 : -(2 ^ 62) ≤ n ∧ n < 2 ^ 62) : EvW K (iRng1 tu) ε (fromto 0 n.toNat) := fun G0 H0 σ G H o Q q => h G0 H0 σ G H o _ fun v G1 H1 o1 u1 r1 => by
  cases r1 with
  | cons a b =>
    cases a
    cases b
    exact ⟨n, rfl, h1.1, h1.2, q _ G1 H1 o1 u1 walks_range⟩
theorem evw_rng2 {lo n : Int} (h : EvAH K tu ε [.int lo, .int n]) (h1 : -(2 ^ 62) ≤ lo ∧ lo < 2 ^ 62 ∧ -(2 ^ 62) ≤ n ∧ n < 2 ^ 62) : EvW K (iRng2 tu) ε (fromto lo (n - lo).toNat) := fun G0 H0 σ G H o Q q => h G0 H0 σ G H o _ fun v G1 H1 o1 u1 r1 => by
  cases r1 with
  | cons a b =>
    cases a
    cases b with
    | cons a b =>
      cases a
      cases b
      exact ⟨lo, n, rfl, h1, q _ G1 H1 o1 u1 walks_range⟩
def zipD (xs ys : List Dat) : List Dat := List.zipWith (fun a b => Dat.tup [a, b]) xs ys
def enumD (xs : List Dat) : List Dat := xs.mapIdx fun i a => Dat.tup [.int i, a]
theorem walks_zip {B : Hp} {a b : Addr} {xs ys : List V} (sq : SqL K B a xs) (rl : RL K B xs ds) (sq2 : SqL K B b ys) (rl2 : RL K B ys es) : Walks K (Itz K a b) B (zipD ds es) := fun i G H s1 s2 =>
  have sA : SqL K H a xs := (s1.trans s2).seq sq
  have sB : SqL K H b ys := (s1.trans s2).seq sq2
  ⟨fun d hd => by
    unfold zipD at hd
    rw [List.getElem?_zipWith] at hd
    cases e1 : ds[i]? with
    | none => rw [e1] at hd; simp at hd
    | some d1 =>
      cases e2 : es[i]? with
      | none => rw [e1, e2] at hd; simp at hd
      | some d2 =>
        rw [e1, e2] at hd
        simp at hd
        subst hd
        obtain ⟨v, hv, r⟩ := rl.getD e1
        obtain ⟨w, hw, r2⟩ := rl2.getD e2
        refine ⟨⟨xs, ys, v, w, sA, sB, hv, hw⟩, fun x H' y => ?_⟩
        obtain ⟨T, x', y', rfl, hT, rfl, f1, f2⟩ := y
        have q1 := f1 xs sA
        have q2 := f2 ys sB
        rw [hv] at q1
        rw [hw] at q2
        cases q1
        cases q2
        have uu : Up G H (upd G T (.tup [v, w])) (upd H T (.tup [v, w])) := .lay s2 hT
        exact ⟨_, uu, .tup upd_same (.cons ((r.up s1).up uu.g) (.one ((r2.up s1).up uu.g)))⟩, fun hl => ⟨xs, ys, sA, sB, by
    unfold zipD at hl
    rw [List.length_zipWith] at hl
    rw [rl.len, rl2.len]
    omega⟩⟩
theorem evw_zip (h : EvA K tu ε [.lst ds, .lst es]) : EvW K (iZip K tu) ε (zipD ds es) := fun G0 H0 σ G H o Q q => h G0 H0 σ G H o _ fun v G1 H1 o1 u1 r1 => by
  cases r1 with
  | cons a b =>
    cases b with
    | cons b c =>
      cases c
      cases a with
      | lst sq rl =>
        cases b with
        | lst sq2 rl2 => exact ⟨_, _, _, _, rfl, o1.up.le.seq sq, o1.up.le.seq sq2, q _ G1 H1 o1 u1 (walks_zip sq rl sq2 rl2)⟩
theorem walks_enum {B : Hp} {a : Addr} {xs : List V} (sq : SqL K B a xs) (rl : RL K B xs ds) : Walks K (Ite K a) B (enumD ds) := fun i G H s1 s2 =>
  have sA : SqL K H a xs := (s1.trans s2).seq sq
  ⟨fun d hd => by
    unfold enumD at hd
    rw [List.getElem?_mapIdx] at hd
    cases e1 : ds[i]? with
    | none => rw [e1] at hd; simp at hd
    | some d1 =>
      rw [e1] at hd
      simp at hd
      subst hd
      obtain ⟨v, hv, r⟩ := rl.getD e1
      refine ⟨⟨xs, v, sA, hv⟩, fun x H' y => ?_⟩
      obtain ⟨T, x', rfl, hT, rfl, f1⟩ := y
      have q1 := f1 xs sA
      rw [hv] at q1
      cases q1
      have uu : Up G H (upd G T (.tup [.int (i : Nat), v])) (upd H T (.tup [.int (i : Nat), v])) := .lay s2 hT
      exact ⟨_, uu, .tup upd_same (.cons (.int _) (.one ((r.up s1).up uu.g)))⟩, fun hl => ⟨xs, sA, by
    unfold enumD at hl
    rw [List.length_mapIdx] at hl
    rw [rl.len]
    exact hl⟩⟩
theorem evw_enum (h : EvA K tu ε [.lst ds]) : EvW K (iEnum K tu) ε (enumD ds) := fun G0 H0 σ G H o Q q => h G0 H0 σ G H o _ fun v G1 H1 o1 u1 r1 => by
  cases r1 with
  | cons a b =>
    cases b
    cases a with
    | lst sq rl => exact ⟨_, _, rfl, o1.up.le.seq sq, q _ G1 H1 o1 u1 (walks_enum sq rl)⟩
theorem rev_get {α : Type} {xs : List α} {i : Nat} (h : i < xs.length) : xs.reverse[i]? = xs[xs.length - 1 - i]? := by
  rw [List.getElem?_reverse h]
theorem walks_rev {B : Hp} {a : Addr} {xs : List V} (sq : SqL K B a xs) (rl : RL K B xs ds) : Walks K (Itv K a xs.length) B ds.reverse := fun i G H s1 s2 =>
  have sA : SqL K H a xs := (s1.trans s2).seq sq
  ⟨fun d hd => by
    have hi : i < ds.length := by
      have := (List.getElem?_eq_some_iff.mp hd).1
      rwa [List.length_reverse] at this
    rw [rev_get hi] at hd
    obtain ⟨v, hv, r⟩ := rl.getD hd
    rw [← rl.len] at hv
    refine ⟨⟨by rw [rl.len]; exact hi, xs, v, sA, hv⟩, fun x H' y => ?_⟩
    obtain ⟨rfl, f1⟩ := y
    have q1 := f1 xs sA
    rw [hv] at q1
    cases q1
    exact ⟨G, .refl s2, r.up s1⟩, fun hl => by
    show xs.length ≤ i
    rw [rl.len]
    rwa [List.length_reverse] at hl⟩
theorem evw_rev (h : EvA K tu ε [.lst ds]) : EvW K (iRev K tu) ε ds.reverse := fun G0 H0 σ G H o Q q => h G0 H0 σ G H o _ fun v G1 H1 o1 u1 r1 => by
  cases r1 with
  | cons a b =>
    cases b
    cases a with
    | lst sq rl => exact ⟨_, _, rfl, o1.up.le.seq sq, q _ G1 H1 o1 u1 (walks_rev sq rl)⟩
/-- the signs of a text -/
def signs (x : Str) : List Dat := x.cps.toList.map fun c => Dat.str ⟨#[c]⟩
theorem walks_str {B : Hp} {x : Str} : Walks K (Its x) B (signs x) := fun i G H s1 s2 =>
  ⟨fun d hd => by
    unfold signs at hd
    rw [List.getElem?_map] at hd
    cases e : x.cps.toList[i]? with
    | none => rw [e] at hd; cases hd
    | some c =>
      rw [e] at hd
      cases hd
      have e' : x.cps[i]? = some c := by simpa using e
      have hi : i < x.cps.size := by
        rw [Array.getElem?_eq_some_iff] at e'
        exact e'.1
      refine ⟨hi, fun v H' y => ?_⟩
      obtain ⟨rfl, c', h', rfl⟩ := y
      rw [e'] at h'
      cases h'
      exact ⟨G, .refl s2, .str _⟩, fun hl => by
    unfold signs at hl
    rw [List.length_map] at hl
    show x.cps.size ≤ i
    simpa using hl⟩
theorem evw_str {x : Str} (h : EvH K te ε (.str x)) : EvW K (iStr te) ε (signs x) := fun G0 H0 σ G H o Q q => h G0 H0 σ G H o _ fun v G1 H1 o1 u1 r1 => by
  cases r1
  exact ⟨x, rfl, q _ G1 H1 o1 u1 walks_str⟩

/-! ### comprehensions -/
def wipeE (ε : Sta) : List Nat → Sta
  | [] => ε
  | v :: vs => (wipeE ε vs).set v .no
theorem Ok.wipe {G0 : Gh} {H0 G H : Hp} {σ : L2.St} (o : Ok K G0 H0 ε σ G H) : ∀ vs : List Nat, Ok K G0 H0 (wipeE ε vs) (L2.wipe σ vs) G H
  | [] => o
  | v :: vs => (Ok.wipe o vs).drop none
/-- forgetting what a target stored brings the wiped slots again -/
def Wiped (g : TG) (vs : List Nat) : Prop := ∀ (σ : L2.St) (v : V) (H : Hp) (Q : L2.St → Hp → Prop), g v (L2.wipe σ vs) H Q → g v (L2.wipe σ vs) H fun σ' H' => L2.wipe σ' vs = L2.wipe σ vs ∧ Q σ' H'
theorem wiped_name {j : Nat} : Wiped (gName j) [j] := fun σ v H Q h => ⟨by
  show (((σ.set j none).set j (some v)).set j none) = σ.set j none
  rw [List.set_set, List.set_set], h⟩
theorem wiped_two {i j n : Nat} (hij : i ≠ j) : Wiped (gTup K n (gCons (gName i) (gCons (gName j) gNil))) [i, j] := fun σ v H Q h => by
  obtain ⟨a, xs, e, s, l, v1, r1, e1, v2, r2, e2, e3, q⟩ := h
  refine ⟨a, xs, e, s, l, v1, r1, e1, v2, r2, e2, e3, ?_, q⟩
  show ((((((σ.set j none).set i none).set i (some v1)).set j (some v2)).set j none).set i none) = (σ.set j none).set i none
  apply List.ext_getElem?
  intro k
  simp only [List.getElem?_set, List.length_set]
  by_cases h1 : i = k
  · simp [h1]
  · by_cases h2 : j = k
    · subst h2
      simp [h1]
    · simp [h1, h2]
theorem evn_lc {α : Type} {wi : TI} {g : TG} {vs : List Nat} (xs : List α) (inj : α → Dat) (p : α → Bool) (f : α → Dat) (h : EvW K wi ε (xs.map inj)) (hw : Wiped g vs)
    (hs : ∀ x, x ∈ xs → ∃ ε', EvG K g (wipeE ε vs) (inj x) ε' ∧ EvT K tt ε' (p x) ∧ (p x = true → EvD K te ε' (f x))) (hl : xs.length < 16777216) :
    EvN K (tLc wi g tt te vs) ε ((xs.filter p).map f) := fun G0 H0 σ G H o Q q => h G0 H0 σ G H o _ fun J G1 H1 o1 u1 W D hD => by
  have hg1 : G1 D = none := o1.up.le.free hD
  -- the list at D, i turns on
  let A : Nat → Hp → Prop := fun i H' => ∃ G' ys, Ok K G0 H0 ε σ G' H' ∧ Up G1 H1 G' H' ∧ H' D = some (.lst ys) ∧ G' D = none ∧ RL K G' ys (((xs.take i).filter p).map f)
  refine ⟨fun i m H' => m = xs.length - i ∧ i ≤ xs.length ∧ A i H', ⟨xs.length, by simp, Nat.zero_le _, G1, [], ?_, .own o1.up.le hD, upd_same, hg1, .nil⟩, ?_⟩
  · exact o1.step (.own o1.up.le hD)
  rintro i m H' ⟨rfl, hi, G', ys, o', u', hp', hg', r'⟩
  obtain ⟨W1, W2⟩ := W i G' H' u'.g o'.up.le
  by_cases hlt : i < xs.length
  · have hx : xs[i]? = some xs[i] := List.getElem?_eq_getElem hlt
    obtain ⟨go, yl⟩ := W1 (inj xs[i]) (by rw [List.getElem?_map, hx]; rfl)
    obtain ⟨ε', hg, ht, he⟩ := hs xs[i] (List.getElem_mem hlt)
    refine .inr ⟨go, fun H2 => A (i + 1) H2, fun H2 a => ⟨xs.length - (i + 1), by omega, rfl, hlt, a⟩, fun x H3 y => ?_⟩
    obtain ⟨G3, u3, r3⟩ := yl x H3 y
    have o3 := o'.step u3
    have nD3 : G3 D = none := u3.new D hg' (by rw [hp']; simp)
    refine hw σ x H3 _ (hg G0 H0 _ G3 H3 x (o3.wipe vs) r3 _ fun σ4 o4 => ?_)
    refine ht G0 H0 σ4 G3 H3 o4 _ fun G5 H5 o5 u5 => ?_
    have hD5 : H5 D = some (.lst ys) := u5.h _ _ (u3.h _ _ hp')
    have nD5 : G5 D = none := u5.new D nD3 (by rw [u3.h _ _ hp']; simp)
    have tk : xs.take (i + 1) = xs.take i ++ [xs[i]] := by rw [List.take_add_one, hx]; rfl
    cases hb : p xs[i] with
    | false =>
      rw [if_neg Bool.false_ne_true]
      refine ⟨G5, ys, o3.step u5, (u'.trans u3).trans u5, hD5, nD5, ?_⟩
      rw [tk, List.filter_append, List.filter_cons_of_neg (by simp [hb]), List.filter_nil, List.append_nil]
      exact r'.up (u3.trans u5).g
    | true =>
      rw [if_pos rfl]
      refine he hb G0 H0 σ4 G5 H5 o5 _ fun v G6 H6 o6 u6 r6 => ?_
      have hD6 : H6 D = some (.lst ys) := u6.h _ _ hD5
      have nD6 : G6 D = none := u6.new D nD5 (by rw [hD5]; simp)
      refine ⟨ys, hD6, size_lt ?_, G6, ys ++ [v], ?_, ?_, upd_same, nD6, ?_⟩
      · rw [r'.len, List.length_map]
        have := List.length_filter_le p (xs.take i)
        rw [List.length_take] at this
        omega
      · have o7 := (o3.step u5).step u6
        exact o7.other nD6 (o1.up.h.free hD) (o1.freshA hD) fun k e hk mk => o1.fresh hD hk mk
      · exact ((u'.trans u3).trans (u5.trans u6)).write nD6 hD
      · rw [tk, List.filter_append, List.map_append, List.filter_cons_of_pos hb, List.filter_nil]
        exact ((r'.up (u3.trans (u5.trans u6)).g)).app (.one r6)
  · have e : i = xs.length := by omega
    subst e
    rw [List.take_length] at r'
    exact .inl ⟨W2 (by rw [List.length_map]; exact Nat.le_refl _), q D ys G' H' o' (u1.trans u') (u1.h.free hD) hp' hg' r'⟩
/-- one name, no test -/
theorem evn_lc1 {α : Type} {wi : TI} {j : Nat} (xs : List α) (inj : α → Dat) (f : α → Dat) (h : EvW K wi ε (xs.map inj)) (hs : ∀ x, x ∈ xs → EvD K te (ε.set j (.dat (inj x))) (f x)) (hl : xs.length < 16777216) :
    EvN K (tLc wi (gName j) tYes te [j]) ε (xs.map f) := by
  have := evn_lc (te := te) (tt := tYes) xs inj (fun _ => true) f h wiped_name (fun x hx => ⟨_, eg_name, evt_yes, fun _ => by
    show EvD K te ((ε.set j .no).set j (.dat (inj x))) (f x)
    rw [Sta.set_set]
    exact hs x hx⟩) hl
  rwa [List.filter_eq_self.mpr (fun _ _ => rfl)] at this
theorem evn_lcT {α : Type} {wi : TI} {j : Nat} (xs : List α) (inj : α → Dat) (p : α → Bool) (f : α → Dat) (h : EvW K wi ε (xs.map inj)) (hs : ∀ x, x ∈ xs → EvT K tt (ε.set j (.dat (inj x))) (p x) ∧ (p x = true → EvD K te (ε.set j (.dat (inj x))) (f x))) (hl : xs.length < 16777216) :
    EvN K (tLc wi (gName j) tt te [j]) ε ((xs.filter p).map f) :=
  evn_lc xs inj p f h wiped_name (fun x hx => ⟨_, eg_name, by
    show EvT K tt ((ε.set j .no).set j (.dat (inj x))) (p x) ∧ (p x = true → EvD K te ((ε.set j .no).set j (.dat (inj x))) (f x))
    rw [Sta.set_set]
    exact hs x hx⟩) hl
end
end Pu
set_option Elab.async false
set_option linter.all false
set_option maxRecDepth 100000
set_option maxHeartbeats 4000000
set_option autoImplicit false
namespace Pu
open PySem PySem.Spec PyProof.Rows L2
/-! ### operators, whatever the kinds -/
section
variable {X : Cx}
def rCatR (K : PySem.W.Frag) : R2 := fun x y H Q => ∃ l b xs zs, x = .ref l ∧ y = .ref b ∧ SqL K H l xs ∧ SqL K H b zs ∧ xs.length + zs.length ≤ sizeLine ∧ ∀ p, H p = none → Q (.ref p) (upd H p (.lst (xs ++ zs)))
theorem op_catR : OpR X (binaryOp .Add) (rCatR X.K) := by
  intro pins s σ H x y v u Q I rx ry h
  obtain ⟨l, b, xs, zs, rfl, rfl, hH, hB, hz, q⟩ := h
  cases rx
  cases ry
  obtain ⟨its, r, ⟨⟨cls, dd, data, sl⟩, n, ho, hc, hdn, hd⟩, z1⟩ := I.list hH
  obtain ⟨its2, r2, ⟨⟨cls2, dd2, data2, sl2⟩, n2, ho2, hc2, hdn2, hd2⟩, z2⟩ := I.list hB
  simp only at hc hd hc2 hd2
  subst hc hd hc2 hd2
  have hl := r.length
  have hl2 := r2.length
  refine concat_meets ⟨_, ho, rfl⟩ ⟨_, ho2, rfl⟩ noFill_list_add seq_list_add PySem.F.slot_list_add PySem.F.entry_list_add (PySem.F.args_list_add_2 _ _)
    (list_addW l b its.toArray its2.toArray n n2 dd dd2 sl sl2 (by rw [List.size_toArray, List.size_toArray]; omega)) ⟨ho, ho2, ?_⟩
  have ea : its.toArray ++ its2.toArray = (its ++ its2).toArray := by simp
  rw [ea]
  exact ⟨.ref _, _, I.lnew (t' := s.toks) (r.append r2) (by rw [List.length_append]; omega), rfl, q _ I.fresh⟩
def rAddU (K : PySem.W.Frag) : R2 := fun x y H Q => (rI0 (fun i j => .int (i + j)) x y H Q) ∨ (∃ i j, x = .str i ∧ y = .str j ∧ i.length + j.length ≤ sizeLine ∧ Q (.str (i ++ j)) H) ∨ rCatR K x y H Q ∨ rCatA K x y H Q ∨ (∃ i k, x = .int i ∧ y = .bl k ∧ Q (.int (i + b2i k)) H)
theorem op_addU : OpR X (binaryOp .Add) (rAddU X.K) := op_add.or (op_add_str.or (op_catR.or (op_catA.or op_add_ib)))
def rMulU : R2 := fun x y H Q => rI CMul (fun i j => .int (i * j)) x y H Q ∨ rI CMulW (fun i j => .int (i * j)) x y H Q
theorem op_mulU : OpR X (binaryOp .Mult) rMulU := op_mul.or op_mulW
end
section
variable {K : PySem.W.Frag}
/-- ints -/
theorem rd_I0 {g : Int → Int → Int} {i j : Int} : RD K (rI0 fun i j => .int (g i j)) (.int i) (.int j) (.int (g i j)) := fun vx vy G H e rx ry Q q => by
  cases rx
  cases ry
  exact ⟨i, j, rfl, rfl, q _ G H (.refl e) (.int _)⟩
theorem rd_B0 {g : Int → Int → Bool} {i j : Int} : RD K (rI0 fun i j => .bl (g i j)) (.int i) (.int j) (.bl (g i j)) := fun vx vy G H e rx ry Q q => by
  cases rx
  cases ry
  exact ⟨i, j, rfl, rfl, q _ G H (.refl e) (.bl _)⟩
theorem rd_I {C : Int → Int → Prop} {g : Int → Int → Int} {i j : Int} (h : C i j) : RD K (rI C fun i j => .int (g i j)) (.int i) (.int j) (.int (g i j)) := fun vx vy G H e rx ry Q q => by
  cases rx
  cases ry
  exact ⟨i, j, rfl, rfl, h, q _ G H (.refl e) (.int _)⟩
theorem rd_mulR {i j : Int} (h : -(2 ^ 64) < j ∧ j < 2 ^ 64) : RD K rMulU (.int i) (.int j) (.int (i * j)) := fun vx vy G H e rx ry Q q => .inl (rd_I (C := CMul) (.inr h) vx vy G H e rx ry Q q)
theorem rd_mulL {i j : Int} (h : -(2 ^ 64) < i ∧ i < 2 ^ 64) : RD K rMulU (.int i) (.int j) (.int (i * j)) := fun vx vy G H e rx ry Q q => .inl (rd_I (C := CMul) (.inl h) vx vy G H e rx ry Q q)
theorem rd_mulW {i j : Int} (h : CMulW i j) : RD K rMulU (.int i) (.int j) (.int (i * j)) := fun vx vy G H e rx ry Q q => .inr (rd_I (C := CMulW) h vx vy G H e rx ry Q q)
theorem rd_fdiv {i j : Int} (h : 0 < j) (h2 : j.natAbs.log2 < 9000) : RD K (rI CDivW fun i j => .int (i / j)) (.int i) (.int j) (.int (i / j)) := rd_I (C := CDivW) ⟨h, h2⟩
theorem rd_add_int {i j : Int} : RD K (rAddU K) (.int i) (.int j) (.int (i + j)) := fun vx vy G H e rx ry Q q => .inl (rd_I0 vx vy G H e rx ry Q q)
theorem rd_add_str {i j : Str} (h : i.length + j.length ≤ 16777216) : RD K (rAddU K) (.str i) (.str j) (.str (i ++ j)) := fun vx vy G H e rx ry Q q => by
  cases rx
  cases ry
  exact .inr (.inl ⟨i, j, rfl, rfl, size_ok h, q _ G H (.refl e) (.str _)⟩)
theorem rdn_add_lst {xs ys : List Dat} (h : xs.length + ys.length ≤ 16777216) : RDN K (rAddU K) (.lst xs) (.lst ys) (xs ++ ys) := fun vx vy G H e rx ry Q q => by
  cases rx with
  | lst s r =>
    cases ry with
    | lst s2 r2 =>
      refine .inr (.inr (.inl ⟨_, _, _, _, rfl, rfl, e.seq s, e.seq s2, size_ok (by rw [r.len, r2.len]; exact h), fun p hp => ?_⟩))
      exact q p _ _ (same_upd hp) hp upd_same (r.app r2)
theorem rd_add_tup {xs ys : List Dat} (h : xs.length + ys.length ≤ 16777216) : RD K (rAddU K) (.tup xs) (.tup ys) (.tup (xs ++ ys)) := fun vx vy G H e rx ry Q q => by
  cases id rx with
  | @tup a us _ s r =>
    cases id ry with
    | @tup b ws _ s2 r2 =>
      refine .inr (.inr (.inr (.inl ⟨_, _, _, _, rfl, rfl, sameT e (.inl (.inl s)), sameT e (.inl (.inl s2)), size_ok (by rw [r.len, r2.len]; exact h), fun hx => ?_, fun hx hy => ?_, fun hx hy p hp => ?_⟩)))
      · subst hx
        cases r
        exact q _ G H (.refl e) ry
      · subst hy
        cases r2
        rw [List.append_nil] at q
        exact q _ G H (.refl e) rx
      · have u : Up G H (upd G p (.tup (us ++ ws))) (upd H p (.tup (us ++ ws))) := .lay e hp
        exact q _ _ _ u (.tup upd_same ((r.app r2).up u.g))

/-! ### == -/
mutual
def toPy : Dat → PyData
  | .non => .none
  | .bl b => .bool b
  | .int i => .int i
  | .str x => .str x
  | .tup xs => .tuple (toPys xs)
  | .lst xs => .list (toPys xs)
  | .ins _ _ _ => .none
  | .dic _ _ => .none
  | .dit _ _ => .none
  | .ty _ => .none
  | .cls _ => .none
def toPys : List Dat → List PyData
  | [] => []
  | d :: ds => toPy d :: toPys ds
end
mutual
/-- nothing but flat things, lists and tuples, at most n deep -/
def Dat.plain : Nat → Dat → Bool
  | _, .non => true
  | _, .bl _ => true
  | _, .int _ => true
  | _, .str x => PyData.strOk x
  | n + 1, .tup xs => Dat.plains n xs
  | n + 1, .lst xs => Dat.plains n xs
  | _, _ => false
def Dat.plains : Nat → List Dat → Bool
  | _, [] => true
  | n, d :: ds => Dat.plain n d && Dat.plains n ds
end
mutual
theorem dp_of {G : Hp} : ∀ (n : Nat) (d : Dat) (v : V), Dat.plain n d = true → R K G v d → Dp K G v (toPy d)
  | _, .non, _, _, h => by cases h; exact .non
  | _, .bl b, _, _, h => by cases h; exact .bl b
  | _, .int i, _, _, h => by cases h; exact .int i
  | _, .str x, _, _, h => by cases h; exact .str x
  | n + 1, .tup ds, _, p, h => by
    cases h with
    | tup s r => exact .tup (.inl (.inl s)) (dps_of n ds _ (by simpa [Dat.plain] using p) r)
  | n + 1, .lst ds, _, p, h => by
    cases h with
    | lst s r => exact .lst s (dps_of n ds _ (by simpa [Dat.plain] using p) r)
  | 0, .tup ds, _, p, h => by simp [Dat.plain] at p
  | 0, .lst ds, _, p, h => by simp [Dat.plain] at p
  | _, .ins _ _ _, _, p, h => by simp [Dat.plain] at p
  | _, .dic _ _, _, p, h => by simp [Dat.plain] at p
  | _, .dit _ _, _, p, h => by simp [Dat.plain] at p
  | _, .ty _, _, p, h => by simp [Dat.plain] at p
  | _, .cls _, _, p, h => by simp [Dat.plain] at p
theorem dps_of {G : Hp} : ∀ (n : Nat) (ds : List Dat) (vs : List V), Dat.plains n ds = true → RL K G vs ds → DpAll K G vs (toPys ds)
  | _, [], _, _, h => by cases h; exact .nil
  | n, d :: ds, _, p, h => by
    cases h with
    | cons a b =>
      have p' : Dat.plain n d = true ∧ Dat.plains n ds = true := by simpa [Dat.plains] using p
      exact .cons (dp_of n d _ p'.1 a) (dps_of n ds _ p'.2 b)
end
mutual
theorem plain_lay : ∀ (n : Nat) (d : Dat), Dat.plain n d = true → (toPy d).canLay0 = true ∧ (toPy d).depth ≤ n
  | _, .non, _ => ⟨rfl, Nat.zero_le _⟩
  | _, .bl b, _ => ⟨rfl, Nat.zero_le _⟩
  | _, .int i, _ => ⟨rfl, Nat.zero_le _⟩
  | _, .str x, p => ⟨by simpa [Dat.plain, toPy, PyData.canLay0] using p, Nat.zero_le _⟩
  | n + 1, .tup ds, p => by
    obtain ⟨a, b⟩ := plains_lay n ds (by simpa [Dat.plain] using p)
    exact ⟨by simpa [toPy, PyData.canLay0] using a, by simpa [toPy, PyData.depth] using b⟩
  | n + 1, .lst ds, p => by
    obtain ⟨a, b⟩ := plains_lay n ds (by simpa [Dat.plain] using p)
    exact ⟨by simpa [toPy, PyData.canLay0] using a, by simpa [toPy, PyData.depth] using b⟩
  | 0, .tup ds, p => by simp [Dat.plain] at p
  | 0, .lst ds, p => by simp [Dat.plain] at p
  | _, .ins _ _ _, p => by simp [Dat.plain] at p
  | _, .dic _ _, p => by simp [Dat.plain] at p
  | _, .dit _ _, p => by simp [Dat.plain] at p
  | _, .ty _, p => by simp [Dat.plain] at p
  | _, .cls _, p => by simp [Dat.plain] at p
theorem plains_lay : ∀ (n : Nat) (ds : List Dat), Dat.plains n ds = true → PyData.canLayAll0 (toPys ds) = true ∧ PyData.depthAll (toPys ds) ≤ n
  | _, [], _ => ⟨rfl, Nat.zero_le _⟩
  | n, d :: ds, p => by
    have p' : Dat.plain n d = true ∧ Dat.plains n ds = true := by simpa [Dat.plains] using p
    obtain ⟨a, b⟩ := plain_lay n d p'.1
    obtain ⟨a2, b2⟩ := plains_lay n ds p'.2
    exact ⟨by simp [toPys, PyData.canLayAll0, a, a2], by simp [toPys, PyData.depthAll]; omega⟩
end
/-- equality as Python tells it -/
def Dat.eqv (a b : Dat) : Bool := PyData.eqv (toPy a) (toPy b)
theorem shaped_of {d : Dat} {n : Nat} (h : Dat.plain n d = true) (hn : n ≤ 64) : SeqAt.shaped (toPy d) = true := by
  obtain ⟨a, b⟩ := plain_lay n d h
  unfold SeqAt.shaped
  rw [a]
  simp
  omega
def rEqU (K : PySem.W.Frag) : R2 := fun x y H Q => rEq x y H Q ∨ rEqD K x y H Q
def rNeU (K : PySem.W.Frag) : R2 := fun x y H Q => rNe x y H Q ∨ rNeD K x y H Q
theorem op_eqU {X : Cx} (hu : X.A.units + 64 < cLine) : OpR X (compareOp .Eq) (rEqU X.K) := op_eq.or (op_eqD hu)
theorem op_neU {X : Cx} (hu : X.A.units + 64 < cLine) : OpR X (compareOp .NotEq) (rNeU X.K) := op_ne.or (op_neD hu)
theorem rd_eq_int {i j : Int} : RD K (rEqU K) (.int i) (.int j) (.bl (i == j)) := fun vx vy G H e rx ry Q q => by
  cases rx
  cases ry
  exact .inl ⟨rfl, by rw [dec_int]; exact q _ G H (.refl e) (.bl _)⟩
theorem rd_eq_str {i j : Str} : RD K (rEqU K) (.str i) (.str j) (.bl (i == j)) := fun vx vy G H e rx ry Q q => by
  cases rx
  cases ry
  exact .inl ⟨rfl, by rw [dec_str]; exact q _ G H (.refl e) (.bl _)⟩
theorem rd_eq_bl {i j : Bool} : RD K (rEqU K) (.bl i) (.bl j) (.bl (i == j)) := fun vx vy G H e rx ry Q q => by
  cases rx
  cases ry
  exact .inl ⟨rfl, by rw [dec_bl]; exact q _ G H (.refl e) (.bl _)⟩
theorem rd_ne_int {i j : Int} : RD K (rNeU K) (.int i) (.int j) (.bl (i != j)) := fun vx vy G H e rx ry Q q => by
  cases rx
  cases ry
  exact .inl ⟨rfl, by rw [dec_int]; exact q _ G H (.refl e) (.bl _)⟩
theorem rd_ne_str {i j : Str} : RD K (rNeU K) (.str i) (.str j) (.bl (i != j)) := fun vx vy G H e rx ry Q q => by
  cases rx
  cases ry
  exact .inl ⟨rfl, by rw [dec_str]; exact q _ G H (.refl e) (.bl _)⟩
theorem rd_eq {x y : Dat} (n m : Nat) (hx : x.plain n = true) (hy : y.plain m = true) (hn : n ≤ 64 := by decide) (hm : m ≤ 64 := by decide) : RD K (rEqU K) x y (.bl (x.eqv y)) := fun vx vy G H e rx ry Q q =>
  .inr ⟨_, _, dp_of n x vx hx (rx.up e), dp_of m y vy hy (ry.up e), shaped_of hx hn, shaped_of hy hm, q _ G H (.refl e) (.bl _)⟩
theorem rd_ne {x y : Dat} (n m : Nat) (hx : x.plain n = true) (hy : y.plain m = true) (hn : n ≤ 64 := by decide) (hm : m ≤ 64 := by decide) : RD K (rNeU K) x y (.bl (!x.eqv y)) := fun vx vy G H e rx ry Q q =>
  .inr ⟨_, _, dp_of n x vx hx (rx.up e), dp_of m y vy hy (ry.up e), shaped_of hx hn, shaped_of hy hm, q _ G H (.refl e) (.bl _)⟩
@[simp] theorem eqv_int (i j : Int) : Dat.eqv (.int i) (.int j) = (i == j) := rfl
@[simp] theorem eqv_str (i j : Str) : Dat.eqv (.str i) (.str j) = (i == j) := rfl
@[simp] theorem eqv_bl (i j : Bool) : Dat.eqv (.bl i) (.bl j) = (i == j) := rfl
@[simp] theorem eqv_non : Dat.eqv .non .non = true := rfl
def eqvs : List Dat → List Dat → Bool
  | [], [] => true
  | x :: xs, y :: ys => x.eqv y && eqvs xs ys
  | _, _ => false
theorem eqvs_all : ∀ xs ys : List Dat, PyData.eqvAll (toPys xs) (toPys ys) = eqvs xs ys
  | [], [] => rfl
  | [], _ :: _ => rfl
  | _ :: _, [] => rfl
  | x :: xs, y :: ys => by
    show (PyData.eqv (toPy x) (toPy y) && PyData.eqvAll (toPys xs) (toPys ys)) = _
    rw [eqvs_all xs ys]
    rfl
@[simp] theorem eqv_tup (xs ys : List Dat) : Dat.eqv (.tup xs) (.tup ys) = eqvs xs ys := by
  show PyData.eqv (.tuple _) (.tuple _) = _
  rw [PyData.eqv, eqvs_all]
@[simp] theorem eqv_lst (xs ys : List Dat) : Dat.eqv (.lst xs) (.lst ys) = eqvs xs ys := by
  show PyData.eqv (.list _) (.list _) = _
  rw [PyData.eqv, eqvs_all]
@[simp] theorem eqvs_nil : eqvs [] [] = true := rfl
@[simp] theorem eqvs_cons (x y : Dat) (xs ys : List Dat) : eqvs (x :: xs) (y :: ys) = (x.eqv y && eqvs xs ys) := rfl
@[simp] theorem eqvs_nc (x : Dat) (xs : List Dat) : eqvs [] (x :: xs) = false := rfl
@[simp] theorem eqvs_cn (x : Dat) (xs : List Dat) : eqvs (x :: xs) [] = false := rfl
theorem eqv_refl {d : Dat} {n : Nat} (h : d.plain n = true) : d.eqv d = true := SeqAt.eqv_refl _ (plain_lay n d h).1
theorem eqvs_ints : ∀ xs ys : List Int, eqvs (xs.map Dat.int) (ys.map Dat.int) = decide (xs = ys)
  | [], [] => rfl
  | [], _ :: _ => rfl
  | _ :: _, [] => rfl
  | x :: xs, y :: ys => by
    rw [List.map_cons, List.map_cons, eqvs_cons, eqvs_ints xs ys, eqv_int]
    exact Bool.eq_iff_iff.mpr (by simp)
theorem eqvs_strs : ∀ xs ys : List Str, eqvs (xs.map Dat.str) (ys.map Dat.str) = decide (xs = ys)
  | [], [] => rfl
  | [], _ :: _ => rfl
  | _ :: _, [] => rfl
  | x :: xs, y :: ys => by
    rw [List.map_cons, List.map_cons, eqvs_cons, eqvs_strs xs ys, eqv_str]
    exact Bool.eq_iff_iff.mpr (by simp)
theorem plains_ints (n : Nat) : ∀ xs : List Int, Dat.plains n (xs.map Dat.int) = true
  | [] => by simp [Dat.plains]
  | x :: xs => by cases n <;> simp [Dat.plains, Dat.plain, plains_ints _ xs]
theorem plains_strs (n : Nat) : ∀ xs : List Str, (∀ x ∈ xs, PyData.strOk x = true) → Dat.plains n (xs.map Dat.str) = true
  | [], _ => by simp [Dat.plains]
  | x :: xs, h => by cases n <;> simp [Dat.plains, Dat.plain, plains_strs _ xs fun y hy => h y (List.mem_cons_of_mem _ hy), h x List.mem_cons_self]
theorem plains_all {n : Nat} : ∀ {xs : List Dat}, (∀ x ∈ xs, x.plain n = true) → Dat.plains n xs = true
  | [], _ => by simp [Dat.plains]
  | x :: xs, h => by simp [Dat.plains, h x List.mem_cons_self, plains_all fun y hy => h y (List.mem_cons_of_mem _ hy)]

/-! ### subscripts -/
section
variable {X : Cx}
end
theorem rd_ixL {xs : List Dat} {i : Int} {d : Dat} (h : atI xs i = some d) : RD K (rIx K) (.lst xs) (.int i) d := fun vx vy G H e rx ry Q q => by
  cases rx with
  | lst s r =>
    cases ry
    obtain ⟨j, hj, hd, _⟩ : ∃ j, ixN xs.length i = some j ∧ xs[j]? = some d ∧ True := by
      unfold atI at h
      cases e : ixN xs.length i with
      | none => rw [e] at h; cases h
      | some j => rw [e] at h; exact ⟨j, rfl, h, trivial⟩
    obtain ⟨v, hv, rv⟩ := r.getD hd
    refine .inl ⟨_, _, i, v, rfl, rfl, e.seq s, ?_, q v G H (.refl e) rv⟩
    unfold atI
    rw [r.len, hj]
    exact hv
theorem rd_ixT {xs : List Dat} {i : Int} {d : Dat} (h : atI xs i = some d) : RD K (rIx K) (.tup xs) (.int i) d := fun vx vy G H e rx ry Q q => by
  cases rx with
  | tup s r =>
    cases ry
    obtain ⟨j, hj, hd, _⟩ : ∃ j, ixN xs.length i = some j ∧ xs[j]? = some d ∧ True := by
      unfold atI at h
      cases e : ixN xs.length i with
      | none => rw [e] at h; cases h
      | some j => rw [e] at h; exact ⟨j, rfl, h, trivial⟩
    obtain ⟨v, hv, rv⟩ := r.getD hd
    refine .inr (.inl ⟨_, _, i, v, rfl, rfl, sameT e (.inl (.inl s)), ?_, q v G H (.refl e) rv⟩)
    unfold atI
    rw [r.len, hj]
    exact hv
theorem atI_map {α : Type} {f : α → Dat} {xs : List α} {k : Int} {x : α} (h0 : 0 ≤ k) (h : xs[k.toNat]? = some x) : atI (xs.map f) k = some (f x) := by
  obtain ⟨n, rfl⟩ := Int.eq_ofNat_of_zero_le h0
  exact atI_nat (by rw [List.getElem?_map]; simp at h; rw [h]; rfl)
theorem atI_int {xs : List Int} {k : Int} (h0 : 0 ≤ k) (h : k < xs.length) : atI (xs.map Dat.int) k = some (.int (xs.getD k.toNat 0)) :=
  atI_map h0 (by
    have : k.toNat < xs.length := by omega
    rw [List.getD_eq_getElem?_getD, List.getElem?_eq_getElem this]
    rfl)
theorem rd_ixS {x : Str} {i : Int} {c : Nat} (hl : x.length ≤ 16777216) (h : atI x.cps.toList i = some c) : RD K (rIx K) (.str x) (.int i) (.str ⟨#[c]⟩) := fun vx vy G H e rx ry Q q => by
  cases rx
  cases ry
  exact .inr (.inr ⟨x, i, c, rfl, rfl, size_ok hl, h, q _ G H (.refl e) (.str _)⟩)

/-! ### in -/
theorem R.flatV {G : Hp} {v : V} {d : Dat} (h : R K G v d) (f : d.flat = true) : flatV v = true := by
  cases h <;> first | rfl | (cases f; done)
theorem RL.flatV {G : Hp} : ∀ {vs : List V} {ds : List Dat}, RL K G vs ds → (∀ d ∈ ds, d.flat = true) → vs.all L2.flatV = true
  | [], _, _, _ => rfl
  | v :: vs, _, h, f => by
    cases h with
    | cons a b =>
      simp only [List.all_cons, Bool.and_eq_true]
      exact ⟨a.flatV (f _ List.mem_cons_self), RL.flatV b fun d hd => f d (List.mem_cons_of_mem _ hd)⟩
theorem eqV_eqv {G : Hp} {v w : V} {d e : Dat} (h : R K G v d) (h2 : R K G w e) (f : d.flat = true) (f2 : e.flat = true) : L2.eqV v w = d.eqv e := by
  cases h <;> cases h2 <;> first | (cases f; done) | (cases f2; done) | rfl
def inD (x : Dat) (xs : List Dat) : Bool := xs.any fun y => y.eqv x
theorem RL.inV {G : Hp} {v : V} {d : Dat} (h : R K G v d) (f : d.flat = true) : ∀ {vs : List V} {ds : List Dat}, RL K G vs ds → (∀ d ∈ ds, d.flat = true) → L2.inV v vs = inD d ds
  | [], _, r, _ => by cases r; rfl
  | w :: vs, _, r, ff => by
    cases r with
    | @cons _ e _ ds a b =>
      show (L2.eqV w v || L2.inV v vs) = (e.eqv d || inD d ds)
      rw [RL.inV h f b fun d hd => ff d (List.mem_cons_of_mem _ hd), eqV_eqv a h (ff _ List.mem_cons_self) f]
theorem rd_inL {x : Dat} {ys : List Dat} (f : x.flat = true) (ff : ∀ d ∈ ys, d.flat = true) : RD K (rIn K false) x (.lst ys) (.bl (inD x ys)) := fun vx vy G H e rx ry Q q => by
  cases ry with
  | lst s r =>
    refine ⟨_, _, rfl, .inl (e.seq s), rx.flatV f, r.flatV ff, ?_⟩
    have := q (.bl (inD x ys)) G H (.refl e) (.bl _)
    rw [← RL.inV rx f r ff] at this
    exact this
theorem rd_inT {x : Dat} {ys : List Dat} (f : x.flat = true) (ff : ∀ d ∈ ys, d.flat = true) : RD K (rIn K false) x (.tup ys) (.bl (inD x ys)) := fun vx vy G H e rx ry Q q => by
  cases ry with
  | tup s r =>
    refine ⟨_, _, rfl, .inr (sameT e (.inl (.inl s))), rx.flatV f, r.flatV ff, ?_⟩
    have := q (.bl (inD x ys)) G H (.refl e) (.bl _)
    rw [← RL.inV rx f r ff] at this
    exact this
theorem rd_ninL {x : Dat} {ys : List Dat} (f : x.flat = true) (ff : ∀ d ∈ ys, d.flat = true) : RD K (rIn K true) x (.lst ys) (.bl (!inD x ys)) := fun vx vy G H e rx ry Q q => by
  cases ry with
  | lst s r =>
    refine ⟨_, _, rfl, .inl (e.seq s), rx.flatV f, r.flatV ff, ?_⟩
    have := q (.bl (!inD x ys)) G H (.refl e) (.bl _)
    rw [← RL.inV rx f r ff] at this
    exact this
theorem inD_int (i : Int) (ns : List Int) : inD (.int i) (ns.map Dat.int) = decide (i ∈ ns) := by
  unfold inD
  rw [List.any_map]
  refine Bool.eq_iff_iff.mpr ?_
  simp only [List.any_eq_true, Function.comp, eqv_int, beq_iff_eq, decide_eq_true_eq]
  exact ⟨fun ⟨x, h, e⟩ => e ▸ h, fun h => ⟨i, h, rfl⟩⟩

/-! ### built-ins -/
/-- the built-in type of a datum -/
def Dat.tyName : Dat → Option String
  | .non => some "NoneType"
  | .bl _ => some "bool"
  | .int _ => some "int"
  | .str _ => some "str"
  | .tup _ => some "tuple"
  | .lst _ => some "list"
  | .dic _ _ => some "dict"
  | .dit _ _ => some "dict"
  | _ => none
theorem R.tyX {G : Hp} {v : V} {d : Dat} (h : R K G v d) {n : String} (e : d.tyName = some n) : TyX K G v (.type n) := by
  cases h with
  | non => cases e; exact .base .non
  | bl b => cases e; exact .base (.bl b)
  | int i => cases e; exact .base (.int i)
  | str x => cases e; exact .base (.str x)
  | tup s r =>
    cases e
    exact .base (.tup s)
  | lst s r =>
    cases e
    rcases s with (s | ⟨o, s⟩) | ⟨o, its, n, k, c, _⟩
    · exact .base (.lst s)
    · exact .base (.frz s)
    · exact .kList k c
  | ins s r => cases e
  | dic s r => cases e; exact .base (.dK s)
  | dit s r => cases e; exact .base (.dT s)
  | ty n => cases e
  | cls C => cases e
theorem rc_isi {d : Dat} {m n : String} {b : Bool} (e : d.tyName = some m) (h : kitB m n = some b) : RC K (rIsi K) [d, .ty n] (.bl b) := fun vs G H s r Q q => by
  cases r with
  | cons a c =>
    cases c with
    | cons c z =>
      cases z
      cases c
      exact ⟨_, _, _, _, b, rfl, .ty n, (a.up s).tyX e, kit_ty h, q _ G H (.refl s) (.bl _)⟩
def isTyN (m n : String) : Bool := m == n || (m == "bool" && n == "int")
def Dat.isTy (d : Dat) (n : String) : Bool := match d.tyName with
  | some m => isTyN m n
  | none => false
@[simp] theorem isTy_non (n : String) : Dat.isTy .non n = ("NoneType" == n || ("NoneType" == "bool" && n == "int")) := rfl
@[simp] theorem isTy_bl (b : Bool) (n : String) : Dat.isTy (.bl b) n = ("bool" == n || ("bool" == "bool" && n == "int")) := rfl
@[simp] theorem isTy_int (b : Int) (n : String) : Dat.isTy (.int b) n = ("int" == n || ("int" == "bool" && n == "int")) := rfl
@[simp] theorem isTy_str (b : Str) (n : String) : Dat.isTy (.str b) n = ("str" == n || ("str" == "bool" && n == "int")) := rfl
@[simp] theorem isTy_tup (b : List Dat) (n : String) : Dat.isTy (.tup b) n = ("tuple" == n || ("tuple" == "bool" && n == "int")) := rfl
@[simp] theorem isTy_lst (b : List Dat) (n : String) : Dat.isTy (.lst b) n = ("list" == n || ("list" == "bool" && n == "int")) := rfl
@[simp] theorem isTy_dic (a : List Key) (b : List Dat) (n : String) : Dat.isTy (.dic a b) n = ("dict" == n || ("dict" == "bool" && n == "int")) := rfl
theorem kit_names : ∀ m ∈ ["NoneType", "bool", "int", "str", "tuple", "list", "dict"], ∀ n ∈ ["int", "bool", "str", "list", "tuple", "dict"], kitB m n = some (isTyN m n) := by decide +kernel
theorem tyName_mem {d : Dat} {m : String} (e : d.tyName = some m) : m ∈ ["NoneType", "bool", "int", "str", "tuple", "list", "dict"] := by
  cases d <;> cases e <;> decide
theorem kit_isTy {d : Dat} {m n : String} (e : d.tyName = some m) (hn : n ∈ ["int", "bool", "str", "list", "tuple", "dict"]) : kitB m n = some (d.isTy n) := by
  unfold Dat.isTy
  rw [e]
  exact kit_names m (tyName_mem e) n hn
theorem rc_isTy {d : Dat} {n : String} (e : d.tyName.isSome = true) (hn : n ∈ ["int", "bool", "str", "list", "tuple", "dict"]) : RC K (rIsi K) [d, .ty n] (.bl (d.isTy n)) := by
  cases h : d.tyName with
  | none => rw [h] at e; cases e
  | some m => exact rc_isi h (kit_isTy h hn)
theorem rc_all {bs : List Bool} : RC K (rAll K) [.lst (bs.map Dat.bl)] (.bl (bs.all id)) := fun vs G H s r Q q => by
  cases r with
  | cons a c =>
    cases c
    cases a with
    | @lst a xs _ sq rl =>
      have e := rl.bls
      subst e
      exact ⟨a, bs, rfl, s.seq sq, q _ G H (.refl s) (.bl _)⟩
theorem rc_any {bs : List Bool} : RC K (rAny K) [.lst (bs.map Dat.bl)] (.bl (bs.any id)) := fun vs G H s r Q q => by
  cases r with
  | cons a c =>
    cases c
    cases a with
    | @lst a xs _ sq rl =>
      have e := rl.bls
      subst e
      exact ⟨a, bs, rfl, s.seq sq, q _ G H (.refl s) (.bl _)⟩
theorem rc_sum {ns : List Int} : RC K (rSum K) [.lst (ns.map Dat.int)] (.int ns.sum) := fun vs G H s r Q q => by
  cases r with
  | cons a c =>
    cases c
    cases a with
    | @lst a xs _ sq rl =>
      have e := rl.ints
      subst e
      exact ⟨a, ns, rfl, s.seq sq, q _ G H (.refl s) (.int _)⟩
theorem rcn_list {ds : List Dat} : RCN K (fun xs H Q => ∃ p ys, xs = [.ref p] ∧ (SqL K H p ys ∨ SqT K H p ys) ∧ ∀ l, H l = none → Q (.ref l) (upd H l (.lst ys))) [.lst ds] ds := fun vs G H s r Q q => by
  cases r with
  | cons a c =>
    cases c
    cases a with
    | @lst a xs _ sq rl => exact ⟨a, xs, rfl, .inl (s.seq sq), fun l hl => q l xs _ (same_upd hl) hl upd_same rl⟩
theorem rcn_listT {ds : List Dat} : RCN K (fun xs H Q => ∃ p ys, xs = [.ref p] ∧ (SqL K H p ys ∨ SqT K H p ys) ∧ ∀ l, H l = none → Q (.ref l) (upd H l (.lst ys))) [.tup ds] ds := fun vs G H s r Q q => by
  cases r with
  | cons a c =>
    cases c
    cases a with
    | @tup a xs _ sq rl => exact ⟨a, xs, rfl, .inr (sameT s (.inl (.inl sq))), fun l hl => q l xs _ (same_upd hl) hl upd_same rl⟩
theorem rc_int_bl {b : Bool} : RC K (fun xs H Q => (∃ i, xs = [.int i] ∧ Q (.int i) H) ∨ ∃ k, xs = [.bl k] ∧ Q (.int (if k then 1 else 0)) H) [.bl b] (.int (if b then 1 else 0)) := fun vs G H s r Q q => by
  cases r with
  | cons a c =>
    cases c
    cases a
    exact .inr ⟨b, rfl, q _ G H (.refl s) (.int _)⟩
theorem rc_abs {i : Int} : RC K (fun xs H Q => ∃ i, xs = [.int i] ∧ Q (.int (if i < 0 then -i else i)) H) [.int i] (.int (if i < 0 then -i else i)) := fun vs G H s r Q q => by
  cases r with
  | cons a c =>
    cases c
    cases a
    exact ⟨i, rfl, q _ G H (.refl s) (.int _)⟩
theorem rc_lenT {ds : List Dat} : RC K (fun xs H Q => ∃ x n, xs = [x] ∧ LenV K x H n ∧ Q (.int n) H) [.tup ds] (.int ds.length) := fun vs G H e r Q q => by
  cases r with
  | cons a b =>
    cases b
    cases a with
    | tup s r =>
      refine ⟨_, ds.length, rfl, .inr ⟨_, sameT e (.inl (.inl s)), ?_⟩, q _ G H (.refl e) (.int _)⟩
      exact r.len.symm
theorem rc_lenS {x : Str} (h : x.length ≤ 16777216) : RC K (fun xs H Q => ∃ x n, xs = [x] ∧ LenV K x H n ∧ Q (.int n) H) [.str x] (.int x.length) := fun vs G H e r Q q => by
  cases r with
  | cons a b =>
    cases b
    cases a
    exact ⟨_, x.length, rfl, ⟨size_ok h, rfl⟩, q _ G H (.refl e) (.int _)⟩
theorem rc_len {ds : List Dat} : RC K (fun xs H Q => ∃ x n, xs = [x] ∧ LenV K x H n ∧ Q (.int n) H) [.lst ds] (.int ds.length) := fun vs G H e r Q q => by
  cases r with
  | cons a b =>
    cases b
    cases a with
    | lst s r =>
      refine ⟨_, ds.length, rfl, .inl ⟨_, e.seq s, ?_⟩, q _ G H (.refl e) (.int _)⟩
      exact r.len.symm
end
end Pu
set_option Elab.async false
set_option linter.all false
set_option maxRecDepth 100000
set_option maxHeartbeats 4000000
set_option autoImplicit false
namespace Pu
open PySem PySem.Spec PyProof.Rows L2
/-! ### one judgement for both: m tells whether the datum stands -/
inductive EvM (K : PySem.W.Frag) (te : TE) (ε : Sta) (d : Dat) : Bool → Prop
  | std (h : EvD K te ε d) : EvM K te ε d true
  | now (h : EvH K te ε d) : EvM K te ε d false
inductive EvMs (K : PySem.W.Frag) (ta : TA) (ε : Sta) (ds : List Dat) : Bool → Prop
  | std (h : EvA K ta ε ds) : EvMs K ta ε ds true
  | now (h : EvAH K ta ε ds) : EvMs K ta ε ds false
def OpRes (K : PySem.W.Frag) (r : R2) (x y d : Dat) : Prop := RD K r x y d ∨ ∃ zs, d = .lst zs ∧ RDN K r x y zs
def CbRes (K : PySem.W.Frag) (r : List V → Hp → VK → Prop) (ds : List Dat) (d : Dat) : Prop := RC K r ds d ∨ ∃ zs, d = .lst zs ∧ RCN K r ds zs
section
variable {K : PySem.W.Frag} {ε : Sta} {te ta tb tx : TE} {tu tw : TA} {t u : TT} {x y z d : Dat} {ds es : List Dat} {m n : Bool}
theorem EvM.toH (h : EvM K te ε d m) : EvH K te ε d := by
  cases h with
  | std h => exact EvD.toH h
  | now h => exact h
theorem EvMs.toH (h : EvMs K tu ε ds m) : EvAH K tu ε ds := by
  cases h with
  | std h => exact EvA.toH h
  | now h => exact h
theorem EvM.toD (h : EvM K te ε d m) (e : m = true) : EvD K te ε d := by
  cases h with
  | std h => exact h
  | now h => cases e
theorem EvMs.toA (h : EvMs K tu ε ds m) (e : m = true) : EvA K tu ε ds := by
  cases h with
  | std h => exact h
  | now h => cases e
theorem EvH.toM (h : EvH K te ε d) : EvM K te ε d d.flat := by
  cases e : d.flat with
  | true => exact .std (h.toD e)
  | false => exact .now h
theorem EvM.flat (h : EvM K te ε d m) : EvM K te ε d (m || d.flat) := by
  cases h with
  | std h => exact .std h
  | now h =>
    rw [Bool.false_or]
    exact EvH.toM h
/-- either it stands, or as it is now -/
theorem EvM.either (h1 : m = true → EvD K te ε d) (h2 : EvH K te ε d) : EvM K te ε d (m || d.flat) := by
  cases m with
  | true => exact .std (h1 rfl)
  | false =>
    rw [Bool.false_or]
    exact EvH.toM h2
theorem EvN.toM (h : EvN K te ε ds) : EvM K te ε (.lst ds) true := .std h.toD
theorem evm_int {i : Int} : EvM K (tC (.int i)) ε (.int i) true := .std evd_int
theorem evm_str {i : Str} : EvM K (tC (.str i)) ε (.str i) true := .std evd_str
theorem evm_bl {i : Bool} : EvM K (tC (.bl i)) ε (.bl i) true := .std evd_bl
theorem evm_non : EvM K (tC .non) ε .non true := .std evd_non
theorem evm_ty {n : String} : EvM K (tC (.ty n)) ε (.ty n) true := .std (evd_c fun _ => .ty n)
theorem evm_cls {C : Addr} : EvM K (tC (.ref C)) ε (.cls C) true := .std (evd_c fun _ => .cls C)
theorem evm_var {i : Nat} (h : ε[i]? = some (.dat d)) : EvM K (tVar i) ε d true := .std (evd_var h)
theorem evm_own {i : Nat} (h : ε[i]? = some (.own ds)) : EvM K (tVar i) ε (.lst ds) false := .now (evh_own h)
theorem evm_ownD {i : Nat} {ks : List Key} (h : ε[i]? = some (.ownD ks ds)) : EvM K (tVar i) ε (.dic ks ds) false := .now (evh_ownD h)
theorem evm_op {r : R2} (ha : EvM K ta ε x m) (hb : EvM K tb ε y n) (hr : OpRes K r x y z) : EvM K (tOp r ta tb) ε z (m && n || z.flat) := by
  have h1 : (m && n) = true → m = true ∧ n = true := fun e => by simpa using e
  rcases hr with hr | ⟨zs, e, hr⟩
  · exact EvM.either (fun e => evd_op (ha.toD (h1 e).1) (hb.toD (h1 e).2) hr) (evh_op ha.toH hb.toH hr)
  · subst e
    refine EvM.either (fun e => EvN.toD (evn_op (ha.toD (h1 e).1) (hb.toD (h1 e).2) hr)) ?_
    intro G0 H0 σ G H o Q q
    exact ha.toH G0 H0 σ G H o _ fun v G1 H1 o1 u1 r1 => hb.toH G0 H0 σ G1 H1 o1 _ fun w G2 H2 o2 u2 r2 => hr v w H2 H2 (.refl _) (r1.up u2.h) r2 Q fun p xs H3 s3 hp hp3 r3 =>
      have u4 : Up G2 H2 G2 H3 := .wide o2.up.le s3
      q _ G2 H3 (o2.step u4) ((u1.trans u2).trans u4) (.lst (.inl (.inl hp3)) (r3.up s3))
theorem evm_un {r : V → Hp → VK → Prop} (ha : EvM K ta ε x m) (hr : RC K (fun vs H Q => ∃ v, vs = [v] ∧ r v H Q) [x] z) : EvM K (tUn r ta) ε z (m || z.flat) := by
  refine EvM.either (fun e => evd_un (ha.toD e) hr) ?_
  intro G0 H0 σ G H o Q q
  refine ha.toH G0 H0 σ G H o _ fun v G1 H1 o1 u1 r1 => ?_
  obtain ⟨v', e, h⟩ := hr [v] H1 H1 (.refl _) (.one r1) Q fun v3 G3 H3 u3 r3 =>
    have u4 : Up G1 H1 G1 H3 := .wide o1.up.le u3.h
    q v3 G1 H3 (o1.step u4) (u1.trans u4) (r3.up u3.le)
  cases e
  exact h
theorem evms_nil : EvMs K tNil ε [] true := .std eva_nil
theorem evms_cons (h : EvM K te ε d m) (hr : EvMs K tu ε ds n) : EvMs K (tCons te tu) ε (d :: ds) (m && n) := by
  cases e : (m && n) with
  | true =>
    have h1 : m = true ∧ n = true := by simpa using e
    exact .std (eva_cons (h.toD h1.1) (hr.toA h1.2))
  | false => exact .now (evah_cons h.toH hr.toH)
theorem evm_tup (h : EvMs K tu ε ds m) (hl : ds.length ≤ 16777216) : EvM K (tTup tu) ε (.tup ds) m := by
  cases h with
  | std h => exact .std (evd_tup h hl)
  | now h => exact .now (evh_tup h hl)
theorem evm_lst (h : EvMs K tu ε ds m) (hl : ds.length ≤ 16777216) : EvM K (tLst tu) ε (.lst ds) m := by
  cases h with
  | std h => exact .std (EvN.toD (evn_lst h hl))
  | now h => exact .now (evh_lst h hl)
theorem evm_cb {r : List V → Hp → VK → Prop} (h : EvMs K tu ε ds m) (hr : CbRes K r ds z) : EvM K (tCB r tu) ε z (m || z.flat) := by
  rcases hr with hr | ⟨zs, e, hr⟩
  · exact EvM.either (fun e => evd_cb (h.toA e) hr) (evh_cb h.toH hr)
  · subst e
    refine EvM.either (fun e => EvN.toD (evn_cb (h.toA e) hr)) ?_
    intro G0 H0 σ G H o Q q
    exact h.toH G0 H0 σ G H o _ fun vs G1 H1 o1 u1 r1 => hr vs H1 H1 (.refl _) r1 Q fun p xs H3 s3 hp hp3 r3 =>
      have u4 : Up G1 H1 G1 H3 := .wide o1.up.le s3
      q _ G1 H3 (o1.step u4) (u1.trans u4) (.lst (.inl (.inl hp3)) (r3.up s3))
/-- what a call's result is as a datum -/
inductive CallIs (P : List Dat → Res → Prop) (ds : List Dat) : Dat → Prop
  | dat {d : Dat} (h : P ds (.dat d)) : CallIs P ds d
  | new {zs : List Dat} (h : P ds (.new zs)) : CallIs P ds (.lst zs)
theorem evm_call {P : List Dat → Res → Prop} {E : XK} (h : EvMs K tu ε ds m) (hP : CallIs P ds z) : EvM K (tCall (spF K P) [] E tu) ε z (m || z.flat) := by
  cases hP with
  | dat hP => exact EvM.either (fun e => evd_call' (h.toA e) hP) (evh_call' h.toH hP)
  | @new zs hP =>
    refine EvM.either (fun e => EvN.toD (evn_call' (h.toA e) hP)) ?_
    intro G0 H0 σ G H o Q q
    refine h.toH G0 H0 σ G H o _ fun vs G1 H1 o1 u1 r1 => ⟨H1, ds, .new zs, .refl _, by rw [List.append_nil]; exact r1, hP, fun v G' H' hr => ?_⟩
    obtain ⟨p, xs, e, u2, hp, hg, h0, r⟩ := hr
    subst e
    have u4 : Up G1 H1 G1 H' := .wide o1.up.le u2.h
    exact q _ G1 H' (o1.step u4) (u1.trans u4) (.lst (.inl (.inl hp)) (r.up u2.le))
theorem evm_and {a b : Bool} (h1 : EvM K ta ε (.bl a) m) (h2 : a = true → EvM K tb ε (.bl b) n) : EvM K (tAndV ta tb) ε (.bl (a && b)) true := EvH.toM (d := .bl (a && b)) (evh_and h1.toH fun e => (h2 e).toH)
theorem evm_or {a b : Bool} (h1 : EvM K ta ε (.bl a) m) (h2 : a = false → EvM K tb ε (.bl b) n) : EvM K (tOrV ta tb) ε (.bl (a || b)) true := EvH.toM (d := .bl (a || b)) (evh_or h1.toH fun e => (h2 e).toH)
theorem evm_not {a : Bool} (h1 : EvM K ta ε (.bl a) m) : EvM K (tNotV ta) ε (.bl (!a)) true := EvH.toM (d := .bl (!a)) (evh_not h1.toH)
theorem evm_if {b : Bool} (h : EvT K t ε b) (h1 : b = true → EvD K ta ε x) (h2 : b = false → EvD K tb ε y) : EvM K (tIf t ta tb) ε (if b = true then x else y) true := .std (evd_if h h1 h2)
theorem evt_testM {b : Bool} (h : EvM K te ε (.bl b) m) : EvT K (tTest te) ε b := evt_test h.toH
theorem evt_BM {b : Bool} (h : EvM K te ε (.bl b) m) : EvT K (tB te) ε b := evt_B h.toH
theorem evo_someM {i : Int} (h : EvM K te ε (.int i) m) : EvO K (tPart te) ε (some i) := evo_some h.toH
/-- the same datum otherwise said -/
theorem evm_is {a b : Dat} (h : EvM K te ε a m) (e : a = b) : EvM K te ε b m := e ▸ h
theorem evms_is {a b : List Dat} (h : EvMs K tu ε a m) (e : a = b) : EvMs K tu ε b m := e ▸ h
theorem evn_callM {P : List Dat → Res → Prop} {E : XK} {zs : List Dat} (h : EvMs K tu ε ds m) (e : m = true) (hP : P ds (.new zs)) : EvN K (tCall (spF K P) [] E tu) ε zs := evn_call' (h.toA e) hP
theorem evn_lstM (h : EvMs K tu ε ds m) (e : m = true) (hl : ds.length ≤ 16777216) : EvN K (tLst tu) ε ds := evn_lst (h.toA e) hl
theorem evn_cbM {r : List V → Hp → VK → Prop} {zs : List Dat} (h : EvMs K tu ε ds m) (e : m = true) (hr : RCN K r ds zs) : EvN K (tCB r tu) ε zs := evn_cb (h.toA e) hr
theorem evn_slM {tl th : TO} {lo hi : Option Int} (h : EvM K te ε (.lst ds) m) (e : m = true) (h1 : EvO K tl ε lo) (h2 : EvO K th ε hi) : EvN K (tSl (rSlL K) te tl th) ε (cutD ds lo hi) := evn_slL (h.toD e) h1 h2
theorem evn_opM {r : R2} {zs : List Dat} (ha : EvM K ta ε x m) (hb : EvM K tb ε y n) (e : (m && n) = true) (hr : RDN K r x y zs) : EvN K (tOp r ta tb) ε zs :=
  have h1 : m = true ∧ n = true := by simpa using e
  evn_op (ha.toD h1.1) (hb.toD h1.2) hr
/-! statements by it -/
variable {s : TS} {v : TS} {Φ : Out → Prop}
theorem ex_setM {i : Nat} (h : EvM K te ε d m) (e : m = true) (k : ExS K s (ε.set i (.dat d)) Φ) : ExS K (tSeq (tAsg te (gName i)) s) ε Φ := ex_set (h.toD e) k
theorem ex_retM (h : EvM K te ε d m) (e : m = true) (k : Φ (.ret (.dat d))) : ExS K (tRet te) ε Φ := ex_ret (h.toD e) k
theorem ex_exprM (h : EvM K te ε d m) (k : ExS K s ε Φ) : ExS K (tSeq (tDrop te) s) ε Φ := ex_expr h.toH k
theorem ex_appM {i : Nat} (h : ε[i]? = some (.own ds)) (he : EvM K te ε d m) (e : m = true) (hl : ds.length < 16777216) (k : ExS K s (ε.set i (.own (ds ++ [d]))) Φ) :
    ExS K (tSeq (tDrop (tBM K "list" rAppend (tVar i) (tCons te tNil))) s) ε Φ := ex_app h (he.toD e) hl k
theorem ex_augM {i : Nat} {f : Int → Int → Int} {a b : Int} (h : ε[i]? = some (.dat (.int a))) (he : EvM K te ε (.int b) m) (k : ExS K s (ε.set i (.dat (.int (f a b)))) Φ) : ExS K (tSeq (tAug i te (ipI f)) s) ε Φ := ex_aug h he.toH k
theorem evw_rng1M {n : Int} {m : Bool} (h : EvMs K tu ε [.int n] m) (h1 : -(2 ^ 62) ≤ n ∧ n < 2 ^ 62) : EvW K (iRng1 tu) ε (fromto 0 n.toNat) := evw_rng1 h.toH h1
theorem evw_rng2M {lo n : Int} {m : Bool} (h : EvMs K tu ε [.int lo, .int n] m) (h1 : -(2 ^ 62) ≤ lo ∧ lo < 2 ^ 62 ∧ -(2 ^ 62) ≤ n ∧ n < 2 ^ 62) : EvW K (iRng2 tu) ε (fromto lo (n - lo).toNat) := evw_rng2 h.toH h1
theorem evw_listM (h : EvM K te ε (.lst ds) m) (e : m = true) : EvW K (iList K te) ε ds := evw_list (h.toD e)
theorem evw_tupM (h : EvM K te ε (.tup ds) m) (e : m = true) : EvW K (iTup K te) ε ds := evw_tup (h.toD e)
theorem evw_strM {x : Str} (h : EvM K te ε (.str x) m) : EvW K (iStr te) ε (signs x) := evw_str h.toH
end
end Pu
set_option Elab.async false
set_option linter.all false
set_option maxRecDepth 100000
set_option maxHeartbeats 4000000
set_option autoImplicit false
/-! the rules with the written part said (so that a comprehension's block takes them) -/
namespace Pu
open PySem PySem.Spec PyProof.Rows L2
section
variable {X : Cx} {K : PySem.W.Frag} (h : X.K = K)
include h
theorem op_addK : OpR X (binaryOp .Add) (rAddU K) := h ▸ op_addU
theorem op_eqK (hu : X.A.units + 64 < cLine) : OpR X (compareOp .Eq) (rEqU K) := h ▸ op_eqU hu
theorem op_neK (hu : X.A.units + 64 < cLine) : OpR X (compareOp .NotEq) (rNeU K) := h ▸ op_neU hu
theorem op_inK : OpR X (compareOp .In) (rIn K false) := h ▸ op_in_seq
theorem op_ninK : OpR X (compareOp .NotIn) (rIn K true) := h ▸ op_notIn_seq
theorem ix_seqK : IxR X (rIx K) := h ▸ ix_seq
theorem sl_listK : SlR X (rSlL K) := h ▸ sl_list
theorem sl_tupK : SlR X (rSlA K) := h ▸ sl_tupA
def rLenU (K : PySem.W.Frag) : List V → Hp → VK → Prop := fun xs H Q => ∃ x n, xs = [x] ∧ LenV K x H n ∧ Q (.int n) H
def rListOf (K : PySem.W.Frag) : List V → Hp → VK → Prop := fun xs H Q => ∃ p ys, xs = [.ref p] ∧ (SqL K H p ys ∨ SqT K H p ys) ∧ ∀ l, H l = none → Q (.ref l) (upd H l (.lst ys))
theorem call_lenK : CallR X (.builtin "len") (rLenU K) := h ▸ call_len
theorem call_listK : CallR X (.type "list") (rListOf K) := h ▸ call_list_of
theorem call_isiK1 : CallR X (.builtin "isinstance") (rIsi K) := h ▸ call_isi
theorem cr_sumK (hc : X.calm = true) : CallR X (.builtin "sum") (rSum K) := h ▸ cr_sum hc
theorem cr_allK (hc : X.calm = true) : CallR X (.builtin "all") (rAll K) := h ▸ cr_all hc
theorem cr_anyK (hc : X.calm = true) : CallR X (.builtin "any") (rAny K) := h ▸ cr_any hc
variable {tg e : Expr} {te : TE} {ta : TA}
theorem pi_listK (he : PE X e te) : PI X tg e (iList K te) := h ▸ pi_list he
theorem pi_tupK (he : PE X e te) : PI X tg e (iTup K te) := h ▸ pi_tup he
theorem pe_fldK {f : String} {pos : Pos} (he : PE X e te) (hb : attributeBase e f X.env (eval e X.env) = eval e X.env) : PE X (.Attribute e f pos) (tFld K te f) := h ▸ pe_fld he hb
end
section
variable {K : PySem.W.Frag}
theorem rcn_listK {ds : List Dat} : RCN K (rListOf K) [.lst ds] ds := rcn_list
theorem rcn_listTK {ds : List Dat} : RCN K (rListOf K) [.tup ds] ds := rcn_listT
theorem rc_lenK {ds : List Dat} : RC K (rLenU K) [.lst ds] (.int ds.length) := rc_len
theorem rc_lenTK {ds : List Dat} : RC K (rLenU K) [.tup ds] (.int ds.length) := rc_lenT
theorem rc_lenSK {x : Str} (h : x.length ≤ 16777216) : RC K (rLenU K) [.str x] (.int x.length) := rc_lenS h
end
end Pu
set_option Elab.async false
set_option linter.all false
set_option maxRecDepth 100000
set_option maxHeartbeats 4000000
set_option autoImplicit false
/-! zip of a tuple and a list (each side a list or a tuple, told by a Bool: true a list) -/
namespace PuZ
open PySem
open PySem.Sem (wp)
def Row (b : Bool) (h : Heap) (p : Addr) (xs : Array Value) : Prop := match b with
  | true => h.IsList p xs
  | false => h.IsTuple p xs
def Run (b : Bool) (h : Heap) (p r : Addr) (n : Nat) : Prop := match b with
  | true => h.IsListIter p r n
  | false => h.IsTupleIter p r n
theorem Row.off {b : Bool} {h k : Heap} {p q : Addr} {xs : Array Value} (x : Row b h p xs) (e : Heap.ExtBut q h k) (n : p ≠ q) : Row b k p xs := by
  cases b with
  | true => exact Heap.IsList.extBut x e n
  | false => exact Heap.IsTuple.extBut x e n
theorem Run.off {b : Bool} {h k : Heap} {p q r : Addr} {n : Nat} (x : Run b h p r n) (e : Heap.ExtBut q h k) (d : p ≠ q) : Run b k p r n := by
  cases b with
  | true => exact Heap.IsListIter.extBut x e d
  | false => exact Heap.IsTupleIter.extBut x e d
theorem Run.keep {b : Bool} {h k : Heap} {p r : Addr} {n : Nat} (x : Run b h p r n) (e : ∀ o, h.get? p = some o → k.get? p = some o) : Run b k p r n := by
  cases b with
  | true => exact Heap.IsListIter.at x e
  | false => exact (let ⟨o, ho, r⟩ := (show h.IsTupleIter p _ _ from x); ⟨o, e _ ho, r⟩ : k.IsTupleIter p _ _)
theorem Run.obj {b : Bool} {h : Heap} {p r : Addr} {n : Nat} (x : Run b h p r n) : ∃ o, h.get? p = some o ∧ ∃ fs, o.data = .fields fs := by
  cases b with
  | true => obtain ⟨o, e, _, d⟩ := (show h.IsListIter p r n from x); exact ⟨o, e, _, d⟩
  | false => obtain ⟨o, e, _, d⟩ := (show h.IsTupleIter p r n from x); exact ⟨o, e, _, d⟩
theorem Row.push {b : Bool} {h : Heap} {p : Addr} {xs : Array Value} (x : Row b h p xs) (o : Obj) : Row b (h.push o) p xs := by
  cases b with
  | true => exact Heap.IsList.push x _
  | false => exact Heap.IsTuple.push x _
def kind (b : Bool) : String := match b with
  | true => "list_iterator"
  | false => "tuple_iterator"
section
variable {prog : Program} {w : World} {A : Around} {E : Value → Shared → Prop} {s : Shared}
theorem next_there {b : Bool} {p r : Addr} {n : Nat} {xs : Array Value} {x : Value} {Q : Value → Shared → Prop} (hp : Run b s.heap p r n) (hr : Row b s.heap r xs) (hx : xs[n]? = some x)
    (q : ∀ k, Run b k p r (n + 1) → Heap.SameBut p s.heap k → Q x { s with heap := k }) : wpAny (model prog w) A (Builtin.SmallTypes.nextOf (.ref p)) Q E s := by
  cases b with
  | true => exact wpAny_nextOf_list_item hp hr hx q
  | false => exact RZ.nextOf_tuple_item hp hr hx q
theorem next_end {b : Bool} {p r : Addr} {n : Nat} {xs : Array Value} {Q : Value → Shared → Prop} (hh : A.handled = none) (hp : Run b s.heap p r n) (hr : Row b s.heap r xs) (hx : xs[n]? = none)
    (q : ∀ k e, Heap.ExtBut p s.heap k → (∃ o, k.get? e = some o ∧ o.cls = .type "StopIteration") → E (.ref e) { s with heap := k }) : wpAny (model prog w) A (Builtin.SmallTypes.nextOf (.ref p)) Q E s := by
  cases b with
  | true => exact wpAny_nextOf_list_end hh hp hr hx q
  | false => exact RZ.nextOf_tuple_end hh hp hr hx q
theorem turn_there {b c : Bool} {z I O i j l m : Addr} {n n' : Nat} {xs ys : Array Value} {x y u v : Value} {Q : Value → Shared → Prop} (D : ZipApart z I O i j l m)
    (ez : IsZip s.heap z I O .none) (eI : IsPair s.heap I (.ref i) (.ref j)) (eO : IsPair s.heap O u v) (ei : Run b s.heap i l n) (ej : Run c s.heap j m n') (el : Row b s.heap l xs) (em : Row c s.heap m ys) (hx : xs[n]? = some x) (hy : ys[n']? = some y)
    (q : ∀ k, IsZip k z I O (rawInt s.heap.objs.size) → IsPair k O x y → Run b k i l (n + 1) → Run c k j m (n' + 1) → IsPair k s.heap.objs.size x y → k.objs.size = s.heap.objs.size + 1 →
      (∀ a o, a ≠ z → a ≠ O → a ≠ i → a ≠ j → s.heap.get? a = some o → k.get? a = some o) → Q (.ref s.heap.objs.size) { s with heap := k }) :
    wpAny (model prog w) A (Builtin.«zip.__next__» ⟨[.ref z], []⟩) (fun f t => ∃ r, f = .done (.ret r) ∧ Q r t) E s := by
  show wpAny _ _ (field (.ref z) 2 >>= _) _ _ _
  refine wpAny_bind (wpAny_field ez rfl (x := .bool false) rfl ?_); show wpAny _ _ (field (.ref z) 3 >>= _) _ _ _
  refine wpAny_bind (wpAny_field ez rfl (x := .ref I) rfl ?_); refine wpAny_bind (wpAny_seqItems eI rfl ?_)
  show wpAny _ _ (Builtin.SmallTypes.ownedTupleIsFree (.ref z) >>= _) _ _ _; refine wpAny_bind ?_
  unfold Builtin.SmallTypes.ownedTupleIsFree
  refine wpAny_bind (wpAny_field ez rfl (x := .none) rfl (wpAny_pure ?_)); simp only [if_true]
  refine wpAny_bind (wpAny_rule ?_); refine wpAny_bind (wpAny_field ez rfl (x := .ref O) rfl ?_)
  refine wpAny_bind (wpAny_setField_rec ez (by simp) fun k1 z1 s1 => ?_)
  have z1 : IsZip k1 z I O .ellipsis := z1
  refine wpAny_bind ?_; simp only [List.zipIdx_cons, List.zipIdx_nil, List.forIn_cons, List.forIn_nil]
  refine wpAny_bind (wpAny_bind (wpAny_onRaise ?_)); show wpAny _ _ (Builtin.SmallTypes.nextOf (.ref i) >>= _) _ _ _
  refine wpAny_bind (next_there (ei.off s1.extBut D.i1z) (el.off s1.extBut D.l1z) hx fun k2 i2 s2 => wpAny_pure ?_)
  have O2 : IsPair k2 O u v := s2.extBut _ _ D.TOi1 (s1.extBut _ _ D.TOz eO)
  refine wpAny_bind (wpAny_seqItems O2 rfl ?_); refine wpAny_bind (wpAny_updateSeq_pair O2 fun k3 O3 s3 => ?_)
  have O3 : IsPair k3 O x v := O3
  refine wpAny_bind (wpAny_letGo (wpAny_pure ?_)); refine wpAny_bind (wpAny_bind (wpAny_onRaise ?_)); show wpAny _ _ (Builtin.SmallTypes.nextOf (.ref j) >>= _) _ _ _
  refine wpAny_bind (next_there (((ej.off s1.extBut D.i2z).off s2.extBut D.i12.symm).off s3.extBut D.TOi2.symm) (((em.off s1.extBut D.l2z).off s2.extBut D.l2i1).off s3.extBut D.l2TO) hy fun k4 j4 s4 => wpAny_pure ?_)
  have O4 : IsPair k4 O x v := s4.extBut _ _ D.TOi2 O3
  refine wpAny_bind (wpAny_seqItems O4 rfl ?_); refine wpAny_bind (wpAny_updateSeq_pair O4 fun k5 O5 s5 => ?_)
  have O5 : IsPair k5 O x y := O5
  refine wpAny_bind (wpAny_letGo (wpAny_pure (wpAny_pure ?_))); refine wpAny_bind (wpAny_seqItems O5 rfl ?_); refine wpAny_bind (wpAny_newTuple ?_)
  have sz : k5.objs.size = s.heap.objs.size := by rw [s5.1, s4.1, s3.1, s2.1, s1.1]
  have z5 : IsZip k5 z I O .ellipsis := s5.extBut _ _ D.TOz.symm (s4.extBut _ _ D.i2z.symm (s3.extBut _ _ D.TOz.symm (s2.extBut _ _ D.i1z.symm z1)))
  have kk : ∀ a o, a ≠ z → a ≠ O → a ≠ i → a ≠ j → s.heap.get? a = some o → k5.get? a = some o := fun a o n1 n2 n3 n4 e => s5.extBut _ _ n2 (s4.extBut _ _ n4 (s3.extBut _ _ n2 (s2.extBut _ _ n3 (s1.extBut _ _ n1 e))))
  have i5 : Run b k5 i l (n + 1) := ((i2.off s3.extBut D.TOi1.symm).off s4.extBut D.i12).off s5.extBut D.TOi1.symm
  have j5 : Run c k5 j m (n' + 1) := j4.off s5.extBut D.TOi2.symm
  have zlt : z < k5.objs.size := Heap.lt_size z5
  show wpAny _ _ (Builtin.SmallTypes.ownedTupleHandOut (.ref z) (.ref k5.objs.size) >>= _) _ _ _; refine wpAny_bind ?_
  unfold Builtin.SmallTypes.ownedTupleHandOut
  have z6 : IsZip (k5.push { cls := .type "tuple", data := .seq #[x, y] }) z I O .ellipsis := Heap.get?_push_of_some _ z5
  refine wpAny_bind (wpAny_setField_rec z6 (by simp) fun k7 z7 s7 => ?_)
  have z7 : IsZip k7 z I O (rawInt k5.objs.size) := z7
  refine wpAny_setField_rec z7 (by simp) fun k8 z8 s8 => ?_
  have z8 : IsZip k8 z I O (rawInt k5.objs.size) := z8
  have up : ∀ a o, a ≠ z → k5.get? a = some o → k8.get? a = some o := fun a o n1 e => s8.extBut _ _ n1 (s7.extBut _ _ n1 (Heap.get?_push_of_some _ e))
  have T8 : IsPair k8 k5.objs.size x y := s8.extBut _ _ (Nat.ne_of_gt zlt) (s7.extBut _ _ (Nat.ne_of_gt zlt) (Heap.get?_push_size _ rfl))
  have sz8 : k8.objs.size = k5.objs.size + 1 := by rw [s8.1, s7.1, Heap.size_push]
  rw [sz] at z8 T8 sz8
  refine wpAny_pure ⟨_, rfl, ?_⟩
  show Q (.ref k5.objs.size) _; rw [sz]
  exact q k8 z8 (up _ _ D.TOz O5) (i5.keep fun o e => up _ o D.i1z e) (j5.keep fun o e => up _ o D.i2z e) T8 sz8 fun a o n1 n2 n3 n4 e => up a o n1 (kk a o n1 n2 n3 n4 e)
theorem turn_end {b c : Bool} {z I O i j l m : Addr} {n n' : Nat} {xs ys : Array Value} {u v : Value} {Q : Fin → Shared → Prop} (hh : A.handled = none) (D : ZipApart z I O i j l m)
    (ez : IsZip s.heap z I O .none) (eI : IsPair s.heap I (.ref i) (.ref j)) (eO : IsPair s.heap O u v) (ei : Run b s.heap i l n) (ej : Run c s.heap j m n') (el : Row b s.heap l xs) (em : Row c s.heap m ys) (hend : xs[n]? = none ∨ ys[n']? = none)
    (q : ∀ k e, (∀ a o, a ≠ z → a ≠ O → a ≠ i → a ≠ j → s.heap.get? a = some o → k.get? a = some o) → (∃ o, k.get? e = some o ∧ o.cls = .type "StopIteration") → E (.ref e) { s with heap := k }) :
    wpAny (model prog w) A (Builtin.«zip.__next__» ⟨[.ref z], []⟩) Q E s := by
  show wpAny _ _ (field (.ref z) 2 >>= _) _ _ _
  refine wpAny_bind (wpAny_field ez rfl (x := .bool false) rfl ?_); show wpAny _ _ (field (.ref z) 3 >>= _) _ _ _
  refine wpAny_bind (wpAny_field ez rfl (x := .ref I) rfl ?_); refine wpAny_bind (wpAny_seqItems eI rfl ?_)
  show wpAny _ _ (Builtin.SmallTypes.ownedTupleIsFree (.ref z) >>= _) _ _ _; refine wpAny_bind ?_
  unfold Builtin.SmallTypes.ownedTupleIsFree
  refine wpAny_bind (wpAny_field ez rfl (x := .none) rfl (wpAny_pure ?_)); simp only [if_true]
  refine wpAny_bind (wpAny_rule ?_); refine wpAny_bind (wpAny_field ez rfl (x := .ref O) rfl ?_)
  refine wpAny_bind (wpAny_setField_rec ez (by simp) fun k1 z1 s1 => ?_)
  have z1 : IsZip k1 z I O .ellipsis := z1
  refine wpAny_bind ?_; simp only [List.zipIdx_cons, List.zipIdx_nil, List.forIn_cons, List.forIn_nil]
  refine wpAny_bind (wpAny_bind (wpAny_onRaise ?_)); show wpAny _ _ (Builtin.SmallTypes.nextOf (.ref i) >>= _) _ _ _
  cases hx : xs[n]? with
  | none =>
    refine wpAny_bind (next_end hh (ei.off s1.extBut D.i1z) (el.off s1.extBut D.l1z) hx fun k2 e s2 he => ?_)
    obtain ⟨oe, ho, hc⟩ := he
    have z2 : IsZip k2 z I O .ellipsis := s2 _ _ D.i1z.symm z1
    have ne : e ≠ z := fun x => by subst x; rw [z2] at ho; cases ho; simp at hc
    exact wpAny_setField_rec z2 (by simp) fun k3 _ s3 => q k3 e (fun a o n1 _ n3 _ x => s3.extBut _ _ n1 (s2 _ _ n3 (s1.extBut _ _ n1 x))) ⟨oe, s3.extBut _ _ ne ho, hc⟩
  | some x =>
    have hy : ys[n']? = none := by rcases hend with h | h; rw [hx] at h; cases h; exact h
    refine wpAny_bind (next_there (ei.off s1.extBut D.i1z) (el.off s1.extBut D.l1z) hx fun k2 i2 s2 => wpAny_pure ?_)
    have O2 : IsPair k2 O u v := s2.extBut _ _ D.TOi1 (s1.extBut _ _ D.TOz eO)
    refine wpAny_bind (wpAny_seqItems O2 rfl ?_); refine wpAny_bind (wpAny_updateSeq_pair O2 fun k3 O3 s3 => ?_)
    refine wpAny_bind (wpAny_letGo (wpAny_pure ?_)); refine wpAny_bind (wpAny_bind (wpAny_onRaise ?_)); show wpAny _ _ (Builtin.SmallTypes.nextOf (.ref j) >>= _) _ _ _
    refine wpAny_bind (next_end hh (((ej.off s1.extBut D.i2z).off s2.extBut D.i12.symm).off s3.extBut D.TOi2.symm) (((em.off s1.extBut D.l2z).off s2.extBut D.l2i1).off s3.extBut D.l2TO) hy fun k4 e s4 he => ?_)
    obtain ⟨oe, ho, hc⟩ := he
    have z4 : IsZip k4 z I O .ellipsis := s4 _ _ D.i2z.symm (s3.extBut _ _ D.TOz.symm (s2.extBut _ _ D.i1z.symm z1))
    have ne : e ≠ z := fun x => by subst x; rw [z4] at ho; cases ho; simp at hc
    exact wpAny_setField_rec z4 (by simp) fun k5 _ s5 => q k5 e (fun a o n1 n2 n3 n4 x => s5.extBut _ _ n1 (s4 _ _ n4 (s3.extBut _ _ n2 (s2.extBut _ _ n3 (s1.extBut _ _ n1 x))))) ⟨oe, s5.extBut _ _ ne ho, hc⟩
theorem py_there {b c : Bool} {z I O i j l m : Addr} {n n' : Nat} {xs ys : Array Value} {x y u v : Value} {Q : Option Value → Shared → Prop} (D : ZipApart z I O i j l m)
    (ez : IsZip s.heap z I O .none) (eI : IsPair s.heap I (.ref i) (.ref j)) (eO : IsPair s.heap O u v) (ei : Run b s.heap i l n) (ej : Run c s.heap j m n') (el : Row b s.heap l xs) (em : Row c s.heap m ys) (hx : xs[n]? = some x) (hy : ys[n']? = some y)
    (q : ∀ k, IsZip k z I O (rawInt s.heap.objs.size) → IsPair k O x y → Run b k i l (n + 1) → Run c k j m (n' + 1) → IsPair k s.heap.objs.size x y → k.objs.size = s.heap.objs.size + 1 →
      (∀ a o, a ≠ z → a ≠ O → a ≠ i → a ≠ j → s.heap.get? a = some o → k.get? a = some o) → Q (some (.ref s.heap.objs.size)) { s with heap := k }) : wpAny (model prog w) A (pyNext (.ref z)) Q E s := by
  have ty : s.TypeIs (.ref z) "zip" := ⟨_, ez, rfl⟩
  unfold pyNext
  exact wpAny_bind (wpAny_attempt (wpAny_callSpecial?_slot (name := Str.ofString "__next__") ty F.slot_zip_next (wpAny_call_entry F.slot_zip_next ty F.entry_zip_next
    (turn_there D ez eI eO ei ej el em hx hy fun k a1 a2 a3 a4 a5 a6 a7 => wpAny_pure (q k a1 a2 a3 a4 a5 a6 a7)) (F.args_zip_next_1 _))))
theorem py_end {b c : Bool} {z I O i j l m : Addr} {n n' : Nat} {xs ys : Array Value} {u v : Value} {Q : Option Value → Shared → Prop} (hh : A.handled = none) (D : ZipApart z I O i j l m)
    (ez : IsZip s.heap z I O .none) (eI : IsPair s.heap I (.ref i) (.ref j)) (eO : IsPair s.heap O u v) (ei : Run b s.heap i l n) (ej : Run c s.heap j m n') (el : Row b s.heap l xs) (em : Row c s.heap m ys) (hend : xs[n]? = none ∨ ys[n']? = none)
    (q : ∀ k, (∀ a o, a ≠ z → a ≠ O → a ≠ i → a ≠ j → s.heap.get? a = some o → k.get? a = some o) → Q none { s with heap := k }) : wpAny (model prog w) A (pyNext (.ref z)) Q E s := by
  have ty : s.TypeIs (.ref z) "zip" := ⟨_, ez, rfl⟩
  unfold pyNext
  refine wpAny_bind (wpAny_attempt (wpAny_callSpecial?_slot (name := Str.ofString "__next__") ty F.slot_zip_next (wpAny_call_entry F.slot_zip_next ty F.entry_zip_next (turn_end hh D ez eI eO ei ej el em hend fun k e hk he => ?_) (F.args_zip_next_1 _))))
  obtain ⟨o, ho, hc⟩ := he
  exact wpAny_bind (wpAny_isInstance (T := "StopIteration") (b := true) ⟨o, ho, hc⟩ isSubtype_stop (wpAny_pure (q _ hk)))
end
abbrev h1 (b : Bool) (h : Heap) (l : Addr) : Heap := h.push { cls := .type (kind b), data := .fields #[.ref l, .int 0 0] }
abbrev h2 (b c : Bool) (h : Heap) (l m : Addr) : Heap := (h1 b h l).push { cls := .type (kind c), data := .fields #[.ref m, .int 0 0] }
abbrev h3 (b c : Bool) (h : Heap) (l m : Addr) : Heap := (h2 b c h l m).push { cls := .type "tuple", data := .seq #[.ref h.objs.size, .ref (h1 b h l).objs.size] }
abbrev h4 (b c : Bool) (h : Heap) (l m : Addr) : Heap := (h3 b c h l m).push { cls := .type "tuple", data := .seq #[.none, .none] }
abbrev h5 (b c : Bool) (h : Heap) (l m : Addr) : Heap := (h4 b c h l m).push { cls := .type "zip", data := .fields #[.none, .bool false, .bool false, .ref (h2 b c h l m).objs.size, .ref (h3 b c h l m).objs.size] }
theorem new_meets (b c : Bool) (l m : Addr) (xs ys : Array Value) : Meets (Builtin.«zip.__new__» ⟨[.type "zip", .ref l, .ref m], []⟩) (fun _ R s => Row b s.heap l xs ∧ Row c s.heap m ys ∧
      R (.ok (.ret (.ref (h4 b c s.heap l m).objs.size))) { s with heap := h5 b c s.heap l m }) := .of_wp fun prog w A R s h => by
    obtain ⟨hp, g, d, tk, os⟩ := s; obtain ⟨hl, hm, h⟩ := h
    have hsub := sub_zip
    cases b with
    | true =>
      have L : Heap.IsList (Shared.heap ⟨hp, g, d, tk, os⟩) l xs := hl
      cases c with
      | true =>
        have M : Heap.IsList (Shared.heap ⟨hp.push { cls := .type "list_iterator", data := .fields #[.ref l, .int 0 0] }, g, d, tk, os⟩) m ys := Heap.IsList.push hm _
        wp_walk using wpAny_pyIter_list L, wpAny_pyIter_list M; exact ⟨_, rfl, h⟩
      | false =>
        have M : Heap.IsTuple (Shared.heap ⟨hp.push { cls := .type "list_iterator", data := .fields #[.ref l, .int 0 0] }, g, d, tk, os⟩) m ys := Heap.IsTuple.push hm _
        wp_walk using wpAny_pyIter_list L, wpAny_pyIter_tuple M; exact ⟨_, rfl, h⟩
    | false =>
      have L : Heap.IsTuple (Shared.heap ⟨hp, g, d, tk, os⟩) l xs := hl
      cases c with
      | true =>
        have M : Heap.IsList (Shared.heap ⟨hp.push { cls := .type "tuple_iterator", data := .fields #[.ref l, .int 0 0] }, g, d, tk, os⟩) m ys := Heap.IsList.push hm _
        wp_walk using wpAny_pyIter_tuple L, wpAny_pyIter_list M; exact ⟨_, rfl, h⟩
      | false =>
        have M : Heap.IsTuple (Shared.heap ⟨hp.push { cls := .type "tuple_iterator", data := .fields #[.ref l, .int 0 0] }, g, d, tk, os⟩) m ys := Heap.IsTuple.push hm _
        wp_walk using wpAny_pyIter_tuple L, wpAny_pyIter_tuple M; exact ⟨_, rfl, h⟩
theorem run_new {b : Bool} {h : Heap} {p l : Addr} (e : h.get? p = some { cls := .type (kind b), data := .fields #[.ref l, .int 0 0] }) : Run b h p l 0 := by
  cases b with
  | true => exact ⟨_, e, rfl, rfl⟩
  | false => exact ⟨_, e, rfl, rfl⟩
section
variable {prog : Program} {w : World} {A : Around} {E : Value → Shared → Prop} {s : Shared}
theorem call_two {b c : Bool} {l m : Addr} {xs ys : Array Value} {Q : Value → Shared → Prop} (hl : Row b s.heap l xs) (hm : Row c s.heap m ys)
    (q : ∀ k, IsZip k (s.heap.objs.size + 4) (s.heap.objs.size + 2) (s.heap.objs.size + 3) .none → IsPair k (s.heap.objs.size + 2) (.ref s.heap.objs.size) (.ref (s.heap.objs.size + 1)) → IsPair k (s.heap.objs.size + 3) .none .none →
      Run b k s.heap.objs.size l 0 → Run c k (s.heap.objs.size + 1) m 0 → k.objs.size = s.heap.objs.size + 5 → (∀ a o, s.heap.get? a = some o → k.get? a = some o) → Q (.ref (s.heap.objs.size + 4)) { s with heap := k }) :
    wpAny (model prog w) A (call (.type "zip") [.ref l, .ref m]) Q E s := by
  refine callType_new F.called_zip (by decide) (F.typeCall_zip_2 _ _) (F.newCall_zip_2 _ _) (fun ob => F.args_object_init_3 ob _ _) F.entry_zip_new (new_meets b c l m xs ys) ⟨hl, hm, ?_⟩
  have n1 : (h1 b s.heap l).objs.size = s.heap.objs.size + 1 := Heap.size_push ..
  have n2 : (h2 b c s.heap l m).objs.size = s.heap.objs.size + 2 := by rw [Heap.size_push, n1]
  have n3 : (h3 b c s.heap l m).objs.size = s.heap.objs.size + 3 := by rw [Heap.size_push, n2]
  have n4 : (h4 b c s.heap l m).objs.size = s.heap.objs.size + 4 := by rw [Heap.size_push, n3]
  have n5 : (h5 b c s.heap l m).objs.size = s.heap.objs.size + 5 := by rw [Heap.size_push, n4]
  have g5 : (h5 b c s.heap l m).get? (h4 b c s.heap l m).objs.size = some _ := Heap.get?_push_size _ rfl
  have g4 : (h5 b c s.heap l m).get? (h3 b c s.heap l m).objs.size = some _ := Heap.get?_push_of_some _ (Heap.get?_push_size _ rfl)
  have g3 : (h5 b c s.heap l m).get? (h2 b c s.heap l m).objs.size = some _ := Heap.get?_push_of_some _ (Heap.get?_push_of_some _ (Heap.get?_push_size _ rfl))
  have g2 : (h5 b c s.heap l m).get? (h1 b s.heap l).objs.size = some _ := Heap.get?_push_of_some _ (Heap.get?_push_of_some _ (Heap.get?_push_of_some _ (Heap.get?_push_size _ rfl)))
  have g1 : (h5 b c s.heap l m).get? s.heap.objs.size = some _ := Heap.get?_push_of_some _ (Heap.get?_push_of_some _ (Heap.get?_push_of_some _ (Heap.get?_push_of_some _ (Heap.get?_push_size _ rfl))))
  show _ ∧ _
  rw [n2, n3, n4] at g5; rw [n1, n2] at g3; rw [n3] at g4; rw [n1] at g2; rw [n4]
  exact ⟨⟨_, g5, rfl⟩, q _ g5 g3 g4 (run_new g1) (run_new g2) n5 fun a o x => Heap.get?_push_of_some _ (Heap.get?_push_of_some _ (Heap.get?_push_of_some _ (Heap.get?_push_of_some _ (Heap.get?_push_of_some _ x))))⟩
end
end PuZ
namespace Pu
open PySem PySem.Spec PyProof.Rows L2 PuZ
def SqB (K : PySem.W.Frag) (b : Bool) (H : Hp) (a : Addr) (xs : List V) : Prop := match b with
  | true => SqL K H a xs
  | false => SqT K H a xs
theorem inv_row {X : Cx} {pins : List (Addr × Obj)} {σ : L2.St} {H : Hp} {s : Shared} {b : Bool} {a : Addr} {xs : List V} (I : Inv X pins σ H s) (h : SqB X.K b H a xs) :
    ∃ its : List Value, Vals xs its ∧ Row b s.heap a its.toArray ∧ (∀ ys, SqB X.K b H a ys → ys = xs) := by
  cases b with
  | true =>
    obtain ⟨its, rv, p, _⟩ := I.list h
    exact ⟨its, rv, p.isList, fun ys hy => I.list_inj hy h⟩
  | false =>
    obtain ⟨its, rv, p, _⟩ := I.tuple h
    exact ⟨its, rv, p, fun ys hy => I.tuple_inj hy h⟩
/-- the rows at p and q as they stand at each turn, their things in new pairs -/
def ItP (K : PySem.W.Frag) (b c : Bool) (p q : Addr) : It :=
  ⟨fun i H => ∃ (xs ys : List V) (x y : V), SqB K b H p xs ∧ SqB K c H q ys ∧ xs[i]? = some x ∧ ys[i]? = some y,
    fun i H v H' => ∃ T x y, v = .ref T ∧ H T = none ∧ H' = upd H T (.tup [x, y]) ∧ (∀ xs, SqB K b H p xs → xs[i]? = some x) ∧ ∀ ys, SqB K c H q ys → ys[i]? = some y,
    fun i H => ∃ xs ys : List V, SqB K b H p xs ∧ SqB K c H q ys ∧ (xs.length ≤ i ∨ ys.length ≤ i)⟩
theorem five {z I O i j a : Addr} (h : a ∈ [z, I, O, i, j]) : a = z ∨ a = I ∨ a = O ∨ a = i ∨ a = j := by simpa using h
theorem turn_P {P : Program} {w : World} {K : PySem.W.Frag} {elts : List Expr} {kk : Nat} {tpos : Pos} {b c : Bool} {p q z I O i j : Addr} (D : ZipApart z I O i j p q) :
    Turn P w K (.Tuple elts kk tpos) (ItP K b c p q) [z, I, O, i, j] z (fun n h => IsZip h z I O .none ∧ IsPair h I (.ref i) (.ref j) ∧ (∃ x y, IsPair h O x y) ∧ Run b h i p n ∧ Run c h j q n) where
  mem := by simp
  obj := fun n h st a ha => by
    obtain ⟨ez, eI, ⟨x, y, eO⟩, r1, r2⟩ := st
    obtain ⟨o1, e1, _, d1⟩ := r1.obj
    obtain ⟨o2, e2, _, d2⟩ := r2.obj
    rcases five ha with rfl | rfl | rfl | rfl | rfl
    · exact ⟨_, ez, fun v w => nomatch w⟩
    · exact ⟨_, eI, fun v w => nomatch w⟩
    · exact ⟨_, eO, fun v w => nomatch w⟩
    · exact ⟨o1, e1, fun v w => by rw [d1] at w; cases w⟩
    · exact ⟨o2, e2, fun v w => by rw [d2] at w; cases w⟩
  keep := fun n h h' st k => by
    obtain ⟨ez, eI, ⟨x, y, eO⟩, r1, r2⟩ := st
    exact ⟨k z (by simp) _ ez, k I (by simp) _ eI, ⟨x, y, k O (by simp) _ eO⟩, r1.keep fun o w => k i (by simp) o w, r2.keep fun o w => k j (by simp) o w⟩
  item := by
    intro X hP hw hK hc n pins s σ H E Iv hf st hg
    subst hP hw hK
    obtain ⟨ez, eI, ⟨x0, y0, eO⟩, r1, r2⟩ := st
    obtain ⟨xs, ys, x, y, hp, hq, hx, hy⟩ := hg
    obtain ⟨its, rv, p1, u1⟩ := inv_row Iv hp
    obtain ⟨its2, rv2, p2, u2⟩ := inv_row Iv hq
    obtain ⟨u, hu, ru⟩ := rv.get hx
    obtain ⟨v, hv, rw2⟩ := rv2.get hy
    have zlt : z < s.heap.objs.size := Heap.lt_size ez
    refine py_there D ez eI eO r1 r2 p1 p2 (x := u) (y := v) (by simpa using hu) (by simpa using hv) fun k z1 O1 i1 j1 T1 sz kp => ?_
    refine ⟨_, rfl, wpAny_letOwnedTupleGo_zip (s := { s with heap := k }) z1 fun k2 z2 sb => ?_⟩
    have T2 : k2.get? s.heap.objs.size = some { cls := .type "tuple", data := .seq #[u, v] } := (sb.2 _ (Nat.ne_of_gt zlt)).trans T1
    have nw : ObjOk X.prog X.w (upd H s.heap.objs.size (.tup [x, y])) k2 s.heap.objs.size (.tup [x, y]) := ⟨by show 2 ≤ sizeLine; decide, [u, v], .cons ru (.cons rw2 .nil), ⟨_, T2, rfl, _, rfl⟩⟩
    have I1 : Inv X pins σ (upd H s.heap.objs.size (.tup [x, y])) { s with heap := k2 } :=
      Iv.turnedNew (t' := s.toks) (ch := [z, I, O, i, j]) (fun a o hb w => (sb.2 a (fun w' => hb (by simp [w']))).trans (kp a o (fun w' => hb (by simp [w'])) (fun w' => hb (by simp [w'])) (fun w' => hb (by simp [w'])) (fun w' => hb (by simp [w'])) w)) hf (Nat.le_refl _) nw
    refine ⟨.ref s.heap.objs.size, _, I1, rfl, ⟨_, x, y, rfl, Iv.hok.fresh (Nat.le_refl _), rfl, fun l hl => by rw [u1 l hl]; exact hx, fun l hl => by rw [u2 l hl]; exact hy⟩, ⟨z2, ?_, ⟨u, v, ?_⟩, ?_, ?_⟩, fun a ha => ?_⟩
    · exact (sb.2 _ D.TIz).trans (kp _ _ D.TIz D.TITO D.TIi1 D.TIi2 eI)
    · exact (sb.2 _ D.TOz).trans O1
    · exact i1.keep fun o w => (sb.2 _ D.i1z).trans w
    · exact j1.keep fun o w => (sb.2 _ D.i2z).trans w
    · have hlt : a < s.heap.objs.size := by
        obtain ⟨_, e1, _⟩ := r1.obj
        obtain ⟨_, e2, _⟩ := r2.obj
        rcases five ha with rfl | rfl | rfl | rfl | rfl
        · exact zlt
        · exact Heap.lt_size eI
        · exact Heap.lt_size eO
        · exact Heap.lt_size e1
        · exact Heap.lt_size e2
      rw [upd_ne (Nat.ne_of_lt hlt)]
      exact (hf a ha).1
  done := by
    intro X hP hw hK hc n pins s σ H E Iv hf st hg
    subst hP hw hK
    obtain ⟨ez, eI, ⟨x0, y0, eO⟩, r1, r2⟩ := st
    obtain ⟨xs, ys, hp, hq, hend⟩ := hg
    obtain ⟨its, rv, p1, _⟩ := inv_row Iv hp
    obtain ⟨its2, rv2, p2, _⟩ := inv_row Iv hq
    have l1 := rv.length
    have l2 := rv2.length
    have he : its.toArray[n]? = none ∨ its2.toArray[n]? = none := by
      rcases hend with w | w
      · exact .inl (by simp; omega)
      · exact .inr (by simp; omega)
    exact py_end (Iv.ok.hd hc) D ez eI eO r1 r2 p1 p2 he fun k kp => ⟨rfl, Iv.turnedL (t' := s.toks) (ch := [z, I, O, i, j]) (fun a o hb w =>
      kp a o (fun w' => hb (by simp [w'])) (fun w' => hb (by simp [w'])) (fun w' => hb (by simp [w'])) (fun w' => hb (by simp [w'])) w) hf⟩
  self := fun A n s Q E st h => wpAny_pyIter_zip st.1 h
def iZipP (K : PySem.W.Frag) (b c : Bool) (ta : TA) : TI := fun σ H R => ta σ H fun vs H1 => ∃ p q xs ys, vs = [.ref p, .ref q] ∧ SqB K b H1 p xs ∧ SqB K c H1 q ys ∧ R (ItP K b c p q) H1
theorem pi_zipP {X : Cx} {K : PySem.W.Frag} (hK : X.K = K) (b c : Bool) {e e2 : Expr} {ta : TA} {p pos tpos : Pos} {elts : List Expr} {kk : Nat} (hg : Gl X "zip") (hm : X.mg "zip" = none) (ha : PA X [e, e2] ta)
    (hs : starEach [e, e2] X.env = (false, eval e X.env) :: starEach [e2] X.env := by rfl) (hpl : (backTo pos (starEach [e2] X.env)).any (·.1) = false := by rfl) :
    PI X (.Tuple elts kk tpos) (.Call (.Name "zip" p) [e, e2] [] pos) (iZipP K b c ta) := by
  subst hK
  refine ⟨fun pins s σ H R I h => ?_⟩
  refine Call_ (ld_blt I hg hm PyProof.Rows.boot_zip (PyProof.Rows.callWith_type1 (thn (ha.run pos pins s σ H _ I h) fun us t ⟨vs, H1, I1, r1, q1⟩ => ?_) hs hpl))
  obtain ⟨p, q, xs, ys, ex, hp, hq, go⟩ := q1
  subst ex
  cases r1 with
  | cons r rr =>
    cases rr with
    | cons r' rr =>
      cases rr
      cases r
      cases r'
      obtain ⟨its, rv, p1, _⟩ := inv_row I1 hp
      obtain ⟨its2, rv2, p2, _⟩ := inv_row I1 hq
      have lt : ∀ {b : Bool} {h : Heap} {a : Addr} {xs : Array Value}, Row b h a xs → a < h.objs.size := fun {b h a xs} r => by
        cases b with
        | true => obtain ⟨_, e, _⟩ := (show h.IsList a xs from r); exact Heap.lt_size e
        | false => obtain ⟨_, e, _⟩ := (show h.IsTuple a xs from r); exact Heap.lt_size e
      refine call_two p1 p2 fun k ez eI eO k1 k2 sz kp => wpAny_pyIter_zip ez ?_
      have I2 : Inv X pins σ H1 { t with heap := k } := I1.kept (t' := t.toks) kp
      refine ⟨t.heap.objs.size + 4, [t.heap.objs.size + 4, t.heap.objs.size + 2, t.heap.objs.size + 3, t.heap.objs.size, t.heap.objs.size + 1], _, _, H1, rfl, I2, turn_P (PySem.W.ktu_apart t.heap.objs.size p q (lt p1) (lt p2)), ⟨ez, eI, ⟨_, _, eO⟩, k1, k2⟩, fun a ha => ?_, go⟩
      have hle : t.heap.objs.size ≤ a := by rcases five ha with rfl | rfl | rfl | rfl | rfl <;> omega
      exact I1.fpOk hle (I1.hok.fresh hle)
section
variable {K : PySem.W.Frag} {ds es : List Dat}
/-- the data of a row, told as a list or as a tuple -/
def rowD (b : Bool) (ds : List Dat) : Dat := match b with
  | true => .lst ds
  | false => .tup ds
theorem R.row {G : Hp} {v : V} {b : Bool} {ds : List Dat} (h : R K G v (rowD b ds)) : ∃ a xs, v = .ref a ∧ SqB K b G a xs ∧ RL K G xs ds := by
  cases b with
  | true => cases h with | lst s r => exact ⟨_, _, rfl, s, r⟩
  | false => cases h with | tup s r => exact ⟨_, _, rfl, .inl (.inl s), r⟩
theorem SqB.same {b : Bool} {G H : Hp} {a : Addr} {xs : List V} (h : SqB K b G a xs) (e : Same G H) : SqB K b H a xs := by
  cases b with
  | true => exact e.seq h
  | false => exact sameT e h
theorem walks_P {b c : Bool} {B : Hp} {p q : Addr} {xs ys : List V} (sp : SqB K b B p xs) (rp : RL K B xs ds) (sq : SqB K c B q ys) (rq : RL K B ys es) : Walks K (ItP K b c p q) B (zipD ds es) := fun i G H s1 s2 =>
  have sA : SqB K b H p xs := sp.same (s1.trans s2)
  have sB : SqB K c H q ys := sq.same (s1.trans s2)
  ⟨fun d hd => by
    unfold zipD at hd
    rw [List.getElem?_zipWith] at hd
    cases e1 : ds[i]? with
    | none => rw [e1] at hd; simp at hd
    | some d1 =>
      cases e2 : es[i]? with
      | none => rw [e1, e2] at hd; simp at hd
      | some d2 =>
        rw [e1, e2] at hd
        simp at hd
        subst hd
        obtain ⟨v, hv, r⟩ := rp.getD e1
        obtain ⟨w, hw, r2⟩ := rq.getD e2
        refine ⟨⟨xs, ys, v, w, sA, sB, hv, hw⟩, fun x H' y => ?_⟩
        obtain ⟨T, x', y', rfl, hT, rfl, f1, f2⟩ := y
        have q1 := f1 xs sA
        have q2 := f2 ys sB
        rw [hv] at q1
        rw [hw] at q2
        cases q1
        cases q2
        have uu : Up G H (upd G T (.tup [v, w])) (upd H T (.tup [v, w])) := .lay s2 hT
        exact ⟨_, uu, .tup upd_same (.cons ((r.up s1).up uu.g) (.one ((r2.up s1).up uu.g)))⟩, fun hl => ⟨xs, ys, sA, sB, by
    unfold zipD at hl
    rw [List.length_zipWith] at hl
    rw [rp.len, rq.len]
    omega⟩⟩
theorem evw_zipP {ε : Sta} {tu : TA} (b c : Bool) (h : EvA K tu ε [rowD b ds, rowD c es]) : EvW K (iZipP K b c tu) ε (zipD ds es) := fun G0 H0 σ G H o Q q => h G0 H0 σ G H o _ fun v G1 H1 o1 u1 r1 => by
  cases r1 with
  | cons x y =>
    cases y with
    | cons y z =>
      cases z
      obtain ⟨a, xs, e1, s1, r1⟩ := x.row
      obtain ⟨a2, ys, e2, s2, r2⟩ := y.row
      subst e1 e2
      exact ⟨_, _, _, _, rfl, s1.same o1.up.le, s2.same o1.up.le, q _ G1 H1 o1 u1 (walks_P s1 r1 s2 r2)⟩
end
end Pu
set_option Elab.async false
set_option linter.all false
set_option maxRecDepth 100000
set_option maxHeartbeats 4000000
set_option autoImplicit false
/-! cells: objects that several may hold and that change -/
namespace Pu
open PySem PySem.Spec PyProof.Rows L2

/-! ### values and more cells -/
section
variable {K : PySem.W.Frag} {α β : List Addr} {G H : Hp}
theorem pre_get {γ : Type} {α β : List γ} {l : Nat} {a : γ} (h : α[l]? = some a) : (α ++ β)[l]? = some a := by
  rw [List.getElem?_append_left (List.getElem?_eq_some_iff.mp h).1]
  exact h
theorem VlOk.more {v : V} {x : Vl} (h : VlOk K α G v x) (β : List Addr) : VlOk K (α ++ β) G v x := by
  cases x with
  | dat d => exact h
  | loc l =>
    obtain ⟨a, e, r⟩ := h
    exact ⟨a, pre_get e, r⟩
theorem VlsOk.more {vs : List V} {xs : List Vl} (h : VlsOk K α G vs xs) (β : List Addr) : VlsOk K (α ++ β) G vs xs := by
  induction h with
  | nil => exact .nil
  | cons a _ ih => exact .cons (a.more β) ih
theorem PsOk.more {κ : Type} {vs : List (κ × V)} {xs : List (κ × Vl)} (h : PsOk K α G vs xs) (β : List Addr) : PsOk K (α ++ β) G vs xs := by
  induction h with
  | nil => exact .nil
  | cons a _ ih => exact .cons (a.more β) ih
theorem CellOk.more {a : Addr} {c : Cell} (h : CellOk K α G H a c) (β : List Addr) : CellOk K (α ++ β) G H a c := by
  cases c with
  | junk => trivial
  | lst xs => obtain ⟨vs, a, b⟩ := h; exact ⟨vs, a, b.more β⟩
  | dic xs => obtain ⟨vs, a, b⟩ := h; exact ⟨vs, a, b.more β⟩
  | ins C xs => obtain ⟨dx, vs, a, b⟩ := h; exact ⟨dx, vs, a, b.more β⟩
theorem VlOk.gr {G0 G1 : Gh} {v : V} {x : Vl} (h : VlOk K G0.a G v x) (g : Gr G0 G1) : VlOk K G1.a G v x := by
  obtain ⟨_, β, e⟩ := g
  rw [e]
  exact h.more β
theorem VlsOk.gr {G0 G1 : Gh} {v : List V} {x : List Vl} (h : VlsOk K G0.a G v x) (g : Gr G0 G1) : VlsOk K G1.a G v x := by
  obtain ⟨_, β, e⟩ := g
  rw [e]
  exact h.more β
theorem VlsOk.app {vs ws : List V} {xs ys : List Vl} (h : VlsOk K α G vs xs) (g : VlsOk K α G ws ys) : VlsOk K α G (vs ++ ws) (xs ++ ys) := by
  induction h with
  | nil => exact g
  | cons a _ ih => exact .cons a ih
theorem VlsOk.snoc : ∀ {xs : List Vl} {x : Vl} {vs : List V}, VlsOk K α G vs (xs ++ [x]) → ∃ ws v, vs = ws ++ [v] ∧ VlsOk K α G ws xs ∧ VlOk K α G v x
  | [], x, _, h => by
    cases h with
    | cons a b => cases b; exact ⟨[], _, rfl, .nil, a⟩
  | y :: ys, x, _, h => by
    cases h with
    | cons a b =>
      obtain ⟨ws, v, e, r, q⟩ := VlsOk.snoc b
      subst e
      exact ⟨_ :: ws, v, rfl, .cons a r, q⟩
/-- what is told of a key -/
def getX {κ : Type} [DecidableEq κ] : List (κ × Vl) → κ → Option Vl
  | [], _ => none
  | (k, x) :: r, j => if k = j then some x else getX r j
/-- a key's value anew -/
def putX {κ : Type} [DecidableEq κ] : List (κ × Vl) → κ → Vl → List (κ × Vl)
  | [], j, y => [(j, y)]
  | (k, x) :: r, j, y => if k = j then (k, y) :: r else (k, x) :: putX r j y
theorem PsOk.val {κ : Type} [DecidableEq κ] {vs : List (κ × V)} {xs : List (κ × Vl)} (h : PsOk K α G vs xs) (j : κ) : (∀ x, getX xs j = some x → ∃ v, valV vs j = some v ∧ VlOk K α G v x) ∧ (getX xs j = none → valV vs j = none) := by
  induction h with
  | nil => exact ⟨fun x e => (by cases e), fun _ => rfl⟩
  | @cons k v x vs xs a _ ih =>
    by_cases e : k = j
    · subst e
      refine ⟨fun y q => ?_, fun q => ?_⟩
      · unfold getX at q
        rw [if_pos rfl] at q
        cases q
        exact ⟨v, valV_pos rfl, a⟩
      · unfold getX at q
        rw [if_pos rfl] at q
        cases q
    · refine ⟨fun y q => ?_, fun q => ?_⟩
      · unfold getX at q
        rw [if_neg e] at q
        rw [valV_neg e]
        exact ih.1 y q
      · unfold getX at q
        rw [if_neg e] at q
        rw [valV_neg e]
        exact ih.2 q
theorem PsOk.look {vs : List (Str × V)} {xs : List (Str × Vl)} (h : PsOk K α G vs xs) (j : Str) : (∀ x, getX xs j = some x → ∃ v, vs.lookup j = some v ∧ VlOk K α G v x) ∧ (getX xs j = none → vs.lookup j = none) := by
  induction h with
  | nil => exact ⟨fun x e => (by cases e), fun _ => rfl⟩
  | @cons k v x vs xs a _ ih =>
    by_cases e : k = j
    · subst e
      refine ⟨fun y q => ?_, fun q => ?_⟩
      · unfold getX at q
        rw [if_pos rfl] at q
        cases q
        exact ⟨v, by simp [List.lookup], a⟩
      · unfold getX at q
        rw [if_pos rfl] at q
        cases q
    · have e2 : (j == k) = false := by
        rw [beq_eq_false_iff_ne]
        exact fun z => e z.symm
      refine ⟨fun y q => ?_, fun q => ?_⟩
      · unfold getX at q
        rw [if_neg e] at q
        rw [List.lookup, e2]
        exact ih.1 y q
      · unfold getX at q
        rw [if_neg e] at q
        rw [List.lookup, e2]
        exact ih.2 q
theorem PsOk.putF {vs : List (Str × V)} {xs : List (Str × Vl)} (h : PsOk K α G vs xs) (j : Str) {v : V} {x : Vl} (r : VlOk K α G v x) : PsOk K α G (L2.putF j v vs) (putX xs j x) := by
  induction h with
  | nil => exact .cons r .nil
  | @cons k v x vs xs a b ih =>
    by_cases e : k = j
    · subst e
      unfold putX L2.putF
      rw [if_pos rfl, if_pos rfl]
      exact .cons r b
    · unfold putX L2.putF
      rw [if_neg e, if_neg e]
      exact .cons a ih
theorem PsOk.len {κ : Type} {vs : List (κ × V)} {xs : List (κ × Vl)} (h : PsOk K α G vs xs) : vs.length = xs.length := by
  induction h with
  | nil => rfl
  | cons _ _ ih => simp [ih]
end

/-! ### what an expression evaluates to, cells changing -/
def EvL (K : PySem.W.Frag) (te : TE) (ε : Sta) (l : Nat) : Prop := ∀ (G0 : Gh) (H0 : Hp) (σ : L2.St) (G H : Hp), Ok K G0 H0 ε σ G H → ∀ Q : VK, (∀ a, G0.a[l]? = some a → Q (.ref a) H) → te σ H Q
def EvY (K : PySem.W.Frag) (te : TE) (ε : Sta) (Ψ : Vl → Sta → Prop) : Prop := ∀ (G0 : Gh) (H0 : Hp) (σ : L2.St) (G H : Hp), Ok K G0 H0 ε σ G H → ∀ Q : VK,
  (∀ v x ε' G1 G' H', Ψ x ε' → Gr G0 G1 → Ok K G1 H0 ε' σ G' H' → Same G G' → VlOk K G1.a G' v x → Q v H') → te σ H Q
def EvYs (K : PySem.W.Frag) (ta : TA) (ε : Sta) (Ψ : List Vl → Sta → Prop) : Prop := ∀ (G0 : Gh) (H0 : Hp) (σ : L2.St) (G H : Hp), Ok K G0 H0 ε σ G H → ∀ Q : List V → Hp → Prop,
  (∀ vs xs ε' G1 G' H', Ψ xs ε' → Gr G0 G1 → Ok K G1 H0 ε' σ G' H' → Same G G' → VlsOk K G1.a G' vs xs → Q vs H') → ta σ H Q
section
variable {K : PySem.W.Frag} {ε : Sta} {te ta tb td : TE} {tu : TA} {d : Dat} {ds : List Dat} {l : Nat} {Ψ : Vl → Sta → Prop} {σ : L2.St} {G0 : Gh} {H0 G H : Hp}
theorem Ok.cell (o : Ok K G0 H0 ε σ G H) {a : Addr} {c : Cell} (ha : G0.a[l]? = some a) (hc : ε.om[l]? = some c) : CellOk K G0.a G H a c := (o.al.cell l a ha).2.2.2 c hc
theorem Ok.addr (o : Ok K G0 H0 ε σ G H) {c : Cell} (hc : ε.om[l]? = some c) : ∃ a, G0.a[l]? = some a := by
  have h1 : l < ε.om.length := (List.getElem?_eq_some_iff.mp hc).1
  rw [← o.al.len] at h1
  exact ⟨_, List.getElem?_eq_getElem h1⟩
/-- a cell changes -/
theorem Ok.put (o : Ok K G0 H0 ε σ G H) {a : Addr} {ob : HO} {c : Cell} (ha : G0.a[l]? = some a) (hc : CellOk K G0.a G (upd H a ob) a c) : Ok K G0 H0 (ε.put l c) σ G (upd H a ob) := by
  obtain ⟨h1, h2, h3, h4⟩ := o.al.cell l a ha
  have lt : l < ε.om.length := by rw [← o.al.len]; exact (List.getElem?_eq_some_iff.mp ha).1
  refine ⟨o.up.write h1 h2, fun j g hj => ?_, o.ne, o.len, ?_, o.al.nd, fun j b hb => ?_, o.al.loc, o.al.own⟩
  · obtain ⟨u, a2, b2⟩ := o.get j g hj
    refine ⟨u, a2, b2.up' (.refl _) fun q o' ev mf hq hgq _ => ⟨?_, hgq⟩⟩
    subst ev
    rw [upd_ne (fun z => by subst z; exact o.al.own j g q hj mf a2 (List.mem_of_getElem? ha))]
    exact hq
  · show _ = (ε.om.set l c).length
    rw [List.length_set]
    exact o.al.len
  · obtain ⟨g1, g2, g3, g4⟩ := o.al.cell j b hb
    by_cases e : j = l
    · subst e
      rw [ha] at hb
      cases hb
      refine ⟨g1, g2, by rw [upd_same]; simp, fun c' hc' => ?_⟩
      have : (ε.om.set j c)[j]? = some c := List.getElem?_set_self lt
      rw [show (ε.put j c).om = ε.om.set j c from rfl, this] at hc'
      cases hc'
      exact hc
    · have nb : b ≠ a := fun z => by
        subst z
        exact e (((List.getElem?_inj (by rw [o.al.len]; exact lt) o.al.nd).mp (ha.trans hb.symm)).symm)
      refine ⟨g1, g2, by rw [upd_ne nb]; exact g3, fun c' hc' => ?_⟩
      rw [show (ε.put l c).om = ε.om.set l c from rfl, List.getElem?_set_ne (Ne.symm e)] at hc'
      exact (g4 c' hc').up (.refl _) fun u q => by rw [upd_ne nb]; exact q
/-- a new cell -/
theorem Ok.cons (o : Ok K G0 H0 ε σ G H) {a : Addr} {c : Cell} (hg : G a = none) (h0 : H0 a = none) (hh : H a ≠ none) (ha : a ∉ G0.a) (hs : ∀ (i : Nat) (e : Sl), ε[i]? = some e → e.mine = true → σ[i]? ≠ some (some (.ref a)))
    (hc : CellOk K (G0.a ++ [a]) G H a c) : Ok K ⟨G0.g, G0.a ++ [a]⟩ H0 (ε.push c) σ G H := by
  refine ⟨o.up, o.get, o.ne, o.len, ?_, ?_, fun j b hb => ?_, fun i l h => ?_, fun i e p h m s => ?_⟩
  · show (G0.a ++ [a]).length = (ε.om ++ [c]).length
    rw [List.length_append, List.length_append, o.al.len]
    rfl
  · show (G0.a ++ [a]).Nodup
    rw [List.nodup_append]
    exact ⟨o.al.nd, by simp, fun x hx y hy => by
      have : y = a := by simpa using hy
      subst this
      exact fun z => ha (z ▸ hx)⟩
  · have hb : (G0.a ++ [a])[j]? = some b := hb
    show G b = none ∧ H0 b = none ∧ H b ≠ none ∧ ∀ c', (ε.om ++ [c])[j]? = some c' → CellOk K (G0.a ++ [a]) G H b c'
    by_cases e : j < G0.a.length
    · rw [List.getElem?_append_left e] at hb
      obtain ⟨g1, g2, g3, g4⟩ := o.al.cell j b hb
      refine ⟨g1, g2, g3, fun c' hc' => ?_⟩
      rw [List.getElem?_append_left (by rw [← o.al.len]; exact e)] at hc'
      exact (g4 c' hc').more [a]
    · have : j = G0.a.length := by
        have := (List.getElem?_eq_some_iff.mp hb).1
        rw [List.length_append] at this
        simp at this
        omega
      subst this
      rw [List.getElem?_append_right (Nat.le_refl _), Nat.sub_self] at hb
      cases hb
      refine ⟨hg, h0, hh, fun c' hc' => ?_⟩
      rw [o.al.len, List.getElem?_append_right (Nat.le_refl _), Nat.sub_self] at hc'
      cases hc'
      exact hc
  · obtain ⟨b, e1, e2⟩ := o.al.loc i l h
    exact ⟨b, pre_get e1, e2⟩
  · show p ∉ G0.a ++ [a]
    intro z
    rcases List.mem_append.mp z with z | z
    · exact o.al.own i e p h m s z
    · have : p = a := by simpa using z
      subst this
      exact hs i e h m s
/-- the cells alone -/
theorem Ok.bare (o : Ok K G0 H0 ε σ G H) : Ok K G0 H0 ⟨[], ε.om⟩ [] G H :=
  ⟨o.up, fun i e h => Sta.nil h, fun i j e f p _ h => Sta.nil h, rfl, o.al.len, o.al.nd, o.al.cell, fun i l h => Sta.nil h, fun i e p h => Sta.nil h⟩
theorem gr_push {a : Addr} : Gr G0 ⟨G0.g, G0.a ++ [a]⟩ := ⟨rfl, [a], rfl⟩
theorem evl_var {i : Nat} (h : ε[i]? = some (.loc l)) : EvL K (tVar i) ε l := fun G0 H0 σ G H o Q q => by
  obtain ⟨a, e1, e2⟩ := o.al.loc i l h
  exact ⟨_, e2, q a e1⟩
theorem evl_fld {C : Addr} {fs : List (Str × Vl)} {f : Str} {l2 : Nat} (h : EvL K ta ε l) (hc : ε.om[l]? = some (.ins C fs)) (c : Cls K C) (n : NoAttr K C f) (hf : getX fs f = some (.loc l2)) : EvL K (tFld K ta f) ε l2 := fun G0 H0 σ G H o Q q =>
  h G0 H0 σ G H o _ fun a ha => by
    obtain ⟨dx, kvs, e, r⟩ := o.cell ha hc
    obtain ⟨v, e2, b, e3, e4⟩ := (r.look f).1 _ hf
    subst e4
    exact ⟨a, C, dx, kvs, _, rfl, e, c, n, e2, q b e3⟩
theorem evd_fld {C : Addr} {fs : List (Str × Vl)} {f : Str} (h : EvL K ta ε l) (hc : ε.om[l]? = some (.ins C fs)) (c : Cls K C) (n : NoAttr K C f) (hf : getX fs f = some (.dat d)) : EvD K (tFld K ta f) ε d := fun G0 H0 σ G H o Q q =>
  h G0 H0 σ G H o _ fun a ha => by
    obtain ⟨dx, kvs, e, r⟩ := o.cell ha hc
    obtain ⟨v, e2, r2⟩ := (r.look f).1 _ hf
    exact ⟨a, C, dx, kvs, _, rfl, e, c, n, e2, q _ G H o (.refl o.up.le) r2⟩
/-- a list, a dict as they are now -/
theorem evh_cell (h : EvL K te ε l) (hc : ε.om[l]? = some (.lst (ds.map Vl.dat))) : EvH K te ε (.lst ds) := fun G0 H0 σ G H o Q q => h G0 H0 σ G H o _ fun a ha => by
  obtain ⟨vs, e, r⟩ := o.cell ha hc
  exact q _ G H o (.refl o.up.le) (.lst (.inl (.inl e)) (r.rl.up o.up.le))
/-- a thing of a list of cells' -/
theorem evd_ixC {ti : TE} {i : Int} (h : EvL K te ε l) (hc : ε.om[l]? = some (.lst (ds.map Vl.dat))) (hi : EvH K ti ε (.int i)) (hd : atI ds i = some d) : EvD K (tOp (rIx K) te ti) ε d := fun G0 H0 σ G H o Q q =>
  h G0 H0 σ G H o _ fun a ha => hi G0 H0 σ G H o _ fun v G1 H1 o1 u1 r1 => by
    obtain ⟨vs, e, r⟩ := o1.cell ha hc
    cases r1
    obtain ⟨w, e2, r2⟩ : ∃ w, atI vs i = some w ∧ R K G1 w d := by
      have rl := r.rl
      unfold atI at hd ⊢
      rw [rl.len]
      cases hj : ixN ds.length i with
      | none => rw [hj] at hd; cases hd
      | some j =>
        rw [hj] at hd
        exact rl.getD hd
    exact .inl ⟨a, vs, i, w, rfl, rfl, .inl (.inl e), e2, q w G1 H1 o1 u1 r2⟩
theorem evn_slC {tl th : TO} {lo hi : Option Int} (h : EvL K te ε l) (hc : ε.om[l]? = some (.lst (ds.map Vl.dat))) (h1 : EvO K tl ε lo) (h2 : EvO K th ε hi) : EvN K (tSl (rSlL K) te tl th) ε (cutD ds lo hi) := fun G0 H0 σ G H o Q q =>
  h G0 H0 σ G H o _ fun a ha => h1 G0 H0 σ G H o _ fun G2 H2 o2 u2 => h2 G0 H0 σ G2 H2 o2 _ fun G3 H3 o3 u3 => by
    obtain ⟨vs, e, r⟩ := o3.cell ha hc
    exact ⟨a, vs, rfl, .inl (.inl e), fun p hp =>
      have u4 : Up G3 H3 G3 (upd H3 p (.lst (cutV vs lo hi))) := .own o3.up.le hp
      q p _ _ _ (o3.step u4) ((u2.trans u3).trans u4) ((u2.trans u3).h.free hp) upd_same (o3.up.le.free hp) (r.rl.cut lo hi)⟩
/-- dicts: a cell's, one that stands -/
theorem RL.valD {α : List Addr} {G : Hp} {ks : List Key} : ∀ {kvs : List (Key × V)} {ds : List Dat}, RL K G (kvs.map (·.2)) ds → PsOk K α G kvs (((kvs.map (·.1)).zip ds).map fun p => (p.1, Vl.dat p.2))
  | [], _, h => by cases h; exact .nil
  | (k, v) :: kvs, _, h => by
    cases h with
    | cons a b => exact .cons a (RL.valD (ks := ks) b)
/-- a key's datum among keys and data -/
def lookD : List Key → List Dat → Key → Option Dat
  | k :: ks, d :: ds, j => if k = j then some d else lookD ks ds j
  | _, _, _ => none
theorem lookD_look : ∀ {ks : List Key} {ds : List Dat} {j : Key}, getX ((ks.zip ds).map fun p => (p.1, Vl.dat p.2)) j = (lookD ks ds j).map Vl.dat
  | [], _, _ => by simp [lookD, getX]
  | _ :: _, [], _ => by simp [lookD, getX]
  | k :: ks, d :: ds, j => by
    show getX ((k, Vl.dat d) :: (ks.zip ds).map fun p => (p.1, Vl.dat p.2)) j = _
    unfold getX lookD
    split
    · rfl
    · exact lookD_look
theorem R.key {G : Hp} {v : V} {k : Key} (h : R K G v (match k with | .inl i => .int i | .inr x => .str x)) : v = kV k := by
  cases k with
  | inl i => cases h; rfl
  | inr x => cases h; rfl
def keyD : Key → Dat
  | .inl i => .int i
  | .inr x => .str x
theorem R.keyD {G : Hp} {v : V} {k : Key} (h : R K G v (keyD k)) : v = kV k := by
  cases k with
  | inl i => cases h; rfl
  | inr x => cases h; rfl
theorem evd_dgetC {ty : TE} {k : Key} {kvs : List (Key × Vl)} (h : EvL K td ε l) (hc : ε.om[l]? = some (.dic kvs)) (hy : EvH K ty ε (keyD k)) (hd : getX kvs k = some (.dat d)) : EvD K (tDGet td ty) ε d := fun G0 H0 σ G H o Q q =>
  h G0 H0 σ G H o _ fun a ha => hy G0 H0 σ G H o _ fun v G1 H1 o1 u1 r1 => by
    obtain ⟨vs, e, r⟩ := o1.cell ha hc
    obtain ⟨w, e2, r2⟩ := (r.val k).1 _ hd
    rw [r1.keyD]
    exact ⟨a, w, rfl, e2 ▸ DGet.k e, q w G1 H1 o1 u1 r2⟩
theorem evh_dinC {ty : TE} {k : Key} {kvs : List (Key × Vl)} (h : EvL K td ε l) (hc : ε.om[l]? = some (.dic kvs)) (hy : EvH K ty ε (keyD k)) : EvH K (tDIn ty td) ε (.bl (getX kvs k).isSome) := fun G0 H0 σ G H o Q q =>
  hy G0 H0 σ G H o _ fun v G1 H1 o1 u1 r1 => h G0 H0 σ G1 H1 o1 _ fun a ha => by
    obtain ⟨vs, e, r⟩ := o1.cell ha hc
    rw [r1.keyD]
    refine ⟨a, _, rfl, DGet.k e, ?_⟩
    have : (valV vs k).isSome = (getX kvs k).isSome := by
      cases q2 : getX kvs k with
      | none => rw [(r.val k).2 q2]; rfl
      | some x =>
        obtain ⟨w, e2, _⟩ := (r.val k).1 _ q2
        rw [e2]
        rfl
    rw [this]
    exact q _ G1 H1 o1 u1 (.bl _)
theorem evd_dget {ty : TE} {k : Key} {ks : List Key} (h : EvD K td ε (.dic ks ds)) (hy : EvH K ty ε (keyD k)) (hd : lookD ks ds k = some d) : EvD K (tDGet td ty) ε d := fun G0 H0 σ G H o Q q =>
  h G0 H0 σ G H o _ fun v G1 H1 o1 u1 r1 => hy G0 H0 σ G1 H1 o1 _ fun w G2 H2 o2 u2 r2 => by
    cases r1 with
    | @dic a kvs _ e r =>
      have e' := o2.up.le _ _ (u2.g _ _ e)
      have rr : PsOk K ([] : List Addr) G2 kvs _ := RL.valD (ks := []) (r.up u2.g)
      obtain ⟨x, e2, r3⟩ := (rr.val k).1 (.dat d) (by rw [lookD_look, hd]; rfl)
      rw [r2.keyD]
      exact ⟨a, x, rfl, e2 ▸ DGet.k e', q x G2 H2 o2 (u1.trans u2) r3⟩
theorem evh_dget {ty : TE} {k : Key} {ks : List Key} (h : EvH K td ε (.dic ks ds)) (hy : EvH K ty ε (keyD k)) (hd : lookD ks ds k = some d) : EvH K (tDGet td ty) ε d := fun G0 H0 σ G H o Q q =>
  h G0 H0 σ G H o _ fun v G1 H1 o1 u1 r1 => hy G0 H0 σ G1 H1 o1 _ fun w G2 H2 o2 u2 r2 => by
    cases r1 with
    | @dic a kvs _ e r =>
      have e' := u2.h _ _ e
      have rr : PsOk K ([] : List Addr) H2 kvs _ := RL.valD (ks := []) (r.up u2.h)
      obtain ⟨x, e2, r3⟩ := (rr.val k).1 (.dat d) (by rw [lookD_look, hd]; rfl)
      rw [r2.keyD]
      exact ⟨a, x, rfl, e2 ▸ DGet.k e', q x G2 H2 o2 (u1.trans u2) r3⟩
theorem evh_din {ty : TE} {k : Key} {ks : List Key} (h : EvH K td ε (.dic ks ds)) (hy : EvH K ty ε (keyD k)) : EvH K (tDIn ty td) ε (.bl (lookD ks ds k).isSome) := fun G0 H0 σ G H o Q q =>
  hy G0 H0 σ G H o _ fun w G1 H1 o1 u1 r1 => h G0 H0 σ G1 H1 o1 _ fun v G2 H2 o2 u2 r2 => by
    cases r2 with
    | @dic a kvs _ e r =>
      have rr : PsOk K ([] : List Addr) H2 kvs _ := RL.valD (ks := []) r
      rw [r1.keyD]
      refine ⟨a, _, rfl, DGet.k e, ?_⟩
      have : (valV kvs k).isSome = (lookD (kvs.map (·.1)) ds k).isSome := by
        cases q2 : lookD (kvs.map (·.1)) ds k with
        | none => rw [(rr.val k).2 (by rw [lookD_look, q2]; rfl)]; rfl
        | some x =>
          obtain ⟨w, e2, _⟩ := (rr.val k).1 (.dat x) (by rw [lookD_look, q2]; rfl)
          rw [e2]
          rfl
      rw [this]
      exact q _ G2 H2 o2 (u1.trans u2) (.bl _)
theorem evnd_new : EvND K tDNewK ε [] [] := fun G0 H0 σ G H o Q q => fun p hp =>
  have u : Up G H G (upd H p (.dK [])) := .own o.up.le hp
  q p [] G _ (o.step u) u hp upd_same (o.up.le.free hp) rfl .nil
theorem EvND.toD {ks : List Key} (h : EvND K te ε ks ds) : EvD K te ε (.dic ks ds) := fun G0 H0 σ G H o Q q => h G0 H0 σ G H o Q fun p kvs G' H' o' u hp hp' hg e r => by
  subst e
  have sg : Same G' (upd G' p (.dK kvs)) := same_upd hg
  have u2 : Up G H (upd G' p (.dK kvs)) H' := u.freeze hp' hg hp
  exact q _ _ H' (o.step u2) u2 (.dic upd_same (r.up sg))
def rDictOf : List V → Hp → VK → Prop := fun xs H Q => ∃ (a : Addr) (kvs : List (Key × V)), xs = [.ref a] ∧ Rd H a (.dK kvs) ∧ ∀ p, H p = none → Q (.ref p) (upd H p (.dK kvs))
theorem call_dictOf {X : Cx} : CallR X (.type "dict") rDictOf := call_dictD
theorem evnd_dictOf {ks : List Key} (h : EvA K tu ε [.dic ks ds]) : EvND K (tCB rDictOf tu) ε ks ds := fun G0 H0 σ G H o Q q => h G0 H0 σ G H o _ fun vs G1 H1 o1 u1 r1 => by
  cases r1 with
  | cons x y =>
    cases y
    cases x with
    | @dic a kvs _ e r => exact ⟨a, kvs, rfl, .inl (o1.up.le _ _ e), fun p hp =>
        have u2 : Up G1 H1 G1 (upd H1 p (.dK kvs)) := .own o1.up.le hp
        q p kvs G1 _ (o1.step u2) (u1.trans u2) (u1.h.free hp) upd_same (o1.up.le.free hp) rfl r⟩

theorem pi_revAK {X : Cx} (h : X.K = K) {tg e : Expr} {te : TE} {p pos : Pos} (hg : Gl X "reversed") (hm : X.mg "reversed" = none) (he : PE X e te) (hs : starEach [e] X.env = (false, eval e X.env) :: starEach [] X.env := by rfl) : PI X tg (.Call (.Name "reversed" p) [e] [] pos) (RT.iRevA K te) := h ▸ RT.pi_revA hg hm he hs
theorem walks_revT {B : Hp} {a : Addr} {xs : List V} (sq : SqT K B a xs) (rl : RL K B xs ds) : Walks K (RT.ItvT K a xs.length) B ds.reverse := fun i G H s1 s2 =>
  have sA : SqT K H a xs := sameT (s1.trans s2) sq
  ⟨fun d hd => by
    have hi : i < ds.length := by
      have := (List.getElem?_eq_some_iff.mp hd).1
      rwa [List.length_reverse] at this
    rw [rev_get hi] at hd
    obtain ⟨v, hv, r⟩ := rl.getD hd
    rw [← rl.len] at hv
    refine ⟨⟨by rw [rl.len]; exact hi, xs, v, sA, hv⟩, fun x H' y => ?_⟩
    obtain ⟨rfl, f1⟩ := y
    have q1 := f1 xs sA
    rw [hv] at q1
    cases q1
    exact ⟨G, .refl s2, r.up s1⟩, fun hl => by
    show xs.length ≤ i
    rw [rl.len]
    rwa [List.length_reverse] at hl⟩
theorem evw_revT (h : EvD K te ε (.tup ds)) : EvW K (RT.iRevA K te) ε ds.reverse := fun G0 H0 σ G H o Q q => h G0 H0 σ G H o _ fun v G1 H1 o1 u1 r1 => by
  cases r1 with
  | tup sq rl => exact ⟨_, _, rfl, .inr ⟨sameT o1.up.le (.inl (.inl sq)), q _ G1 H1 o1 u1 (walks_revT (.inl (.inl sq)) rl)⟩⟩

/-! with change -/
theorem evy_imp {Ψ' : Vl → Sta → Prop} (h : EvY K te ε Ψ) (i : ∀ x e, Ψ x e → Ψ' x e) : EvY K te ε Ψ' := fun G0 H0 σ G H o Q q => h G0 H0 σ G H o Q fun v x e G1 G' H' p => q v x e G1 G' H' (i _ _ p)
theorem evy_d (h : EvD K te ε d) (p : Ψ (.dat d) ε) : EvY K te ε Ψ := fun G0 H0 σ G H o Q q => h G0 H0 σ G H o Q fun v G' H' o' u r => q v _ _ G0 G' H' p .refl o' u.g r
theorem evy_l (h : EvL K te ε l) (p : Ψ (.loc l) ε) : EvY K te ε Ψ := fun G0 H0 σ G H o Q q => h G0 H0 σ G H o Q fun a ha => q _ _ _ G0 G H p .refl o (.refl _) ⟨a, ha, rfl⟩
theorem evy_new (h : EvN K te ε ds) (p : Ψ (.loc ε.om.length) (ε.push (.lst (ds.map Vl.dat)))) : EvY K te ε Ψ := fun G0 H0 σ G H o Q q => h G0 H0 σ G H o Q fun a xs G' H' o' u ha ha' hg r => by
  have o2 := o'.cons (a := a) (c := .lst (ds.map Vl.dat)) hg (o.up.h.free ha) (by rw [ha']; simp) (o.freshA ha) (fun i e hi m => o.fresh ha hi m) ⟨xs, ha', r.vls⟩
  exact q _ _ _ _ _ _ p gr_push o2 u.g ⟨a, by rw [← o.al.len, List.getElem?_append_right (Nat.le_refl _), Nat.sub_self]; rfl, rfl⟩
theorem evy_newD {ks : List Key} (h : EvND K te ε ks ds) (p : Ψ (.loc ε.om.length) (ε.push (.dic ((ks.zip ds).map fun p => (p.1, Vl.dat p.2))))) : EvY K te ε Ψ := fun G0 H0 σ G H o Q q => h G0 H0 σ G H o Q fun a kvs G' H' o' u ha ha' hg e r => by
  subst e
  have o2 := o'.cons (a := a) (c := .dic (((kvs.map (·.1)).zip ds).map fun p => (p.1, Vl.dat p.2))) hg (o.up.h.free ha) (by rw [ha']; simp) (o.freshA ha) (fun i e hi m => o.fresh ha hi m) ⟨kvs, ha', RL.valD (ks := []) r⟩
  exact q _ _ _ _ _ _ p gr_push o2 u.g ⟨a, by rw [← o.al.len, List.getElem?_append_right (Nat.le_refl _), Nat.sub_self]; rfl, rfl⟩
theorem evy_pop {xs : List Vl} {x : Vl} (h : EvL K te ε l) (hc : ε.om[l]? = some (.lst (xs ++ [x]))) (p : Ψ x (ε.put l (.lst xs))) : EvY K (tBM0 K "list" rPop te) ε Ψ := fun G0 H0 σ G H o Q q =>
  h G0 H0 σ G H o _ fun a ha => by
    obtain ⟨vs, e, r⟩ := o.cell ha hc
    obtain ⟨ws, v, e2, r1, r2⟩ := r.snoc
    subst e2
    refine ⟨.inl ⟨rfl, _, .inl (.inl e)⟩, a, _, v, rfl, rfl, e, by simp, ?_⟩
    rw [List.dropLast_concat]
    exact q v x _ G0 G _ p .refl (o.put (c := .lst xs) ha ⟨ws, upd_same, r1⟩) (.refl _) r2
theorem evys_nil {Ψ : List Vl → Sta → Prop} (p : Ψ [] ε) : EvYs K tNil ε Ψ := fun G0 H0 σ G H o Q q => q [] [] ε G0 G H p .refl o (.refl _) .nil
theorem evys_cons {Ψ' : List Vl → Sta → Prop} (h : EvY K te ε Ψ) (hr : ∀ x ε', Ψ x ε' → EvYs K tu ε' fun xs ε'' => Ψ' (x :: xs) ε'') : EvYs K (tCons te tu) ε Ψ' := fun G0 H0 σ G H o Q q =>
  h G0 H0 σ G H o _ fun v x ε' G1 G' H' p g o' s r => hr x ε' p G1 H0 σ G' H' o' _ fun vs xs ε'' G2 G'' H'' p2 g2 o2 s2 r2 => q _ _ ε'' G2 G'' H'' p2 (g.trans g2) o2 (s.trans s2) (.cons ((r.up s2).gr g2) r2)
theorem evys_d {Ψ' : List Vl → Sta → Prop} (h : EvA K tu ε ds) (p : Ψ' (ds.map Vl.dat) ε) : EvYs K tu ε Ψ' := fun G0 H0 σ G H o Q q => h G0 H0 σ G H o _ fun vs G' H' o' u r => q _ _ _ G0 G' H' p .refl o' u.g r.vls

/-! ### calls that may change cells -/
def hide (H : Hp) (α : List Addr) : Hp := fun a => if a ∈ α then none else H a
abbrev PX := List Vl → List Cell → (Vl → List Cell → Prop) → Prop
/-- the promise of a def that may change the cells: P tells what comes of it -/
def spX (K : PySem.W.Frag) (P : PX) : Sp := fun vs H Q _ => ∃ G α xs ω Ψ, Ok K ⟨G, α⟩ (hide H α) ⟨[], ω⟩ [] G H ∧ VlsOk K α G vs xs ∧ P xs ω Ψ ∧
  ∀ v x ω' β G' H', Ψ x ω' → Ok K ⟨G, α ++ β⟩ (hide H α) ⟨[], ω'⟩ [] G' H' → VlOk K (α ++ β) G' v x → Q v H'
theorem hide_some {H : Hp} {α : List Addr} {a : Addr} {u : HO} (h : hide H α a = some u) : H a = some u ∧ a ∉ α := by
  unfold hide at h
  split at h
  · cases h
  · rename_i q
    exact ⟨h, q⟩
theorem hide_of {H : Hp} {α : List Addr} {a : Addr} (h : a ∉ α) : hide H α a = H a := by
  unfold hide
  rw [if_neg h]
/-- as a called def sees the cells -/
theorem Ok.inner (o : Ok K G0 H0 ε σ G H) : Ok K ⟨G, G0.a⟩ (hide H G0.a) ⟨[], ε.om⟩ [] G H := by
  refine ⟨⟨.refl _, fun b u h => (hide_some h).1, o.up.le, fun _ h _ => h⟩, fun i e h => Sta.nil h, fun i j e f p _ h => Sta.nil h, rfl, o.al.len, o.al.nd, fun l a ha => ?_,
    fun i l h => Sta.nil h, fun i e p h => Sta.nil h⟩
  obtain ⟨h1, h2, h3, h4⟩ := o.al.cell l a ha
  refine ⟨h1, ?_, h3, h4⟩
  unfold hide
  rw [if_pos (List.mem_of_getElem? ha)]
/-- .. and what it leaves -/
theorem Ok.outer (o : Ok K G0 H0 ε σ G H) {ω' : List Cell} {β : List Addr} {G' H' : Hp} (i : Ok K ⟨G, G0.a ++ β⟩ (hide H G0.a) ⟨[], ω'⟩ [] G' H') : Ok K ⟨G0.g, G0.a ++ β⟩ H0 ⟨ε.sl, ω'⟩ σ G' H' := by
  have off : ∀ (a : Addr), H0 a ≠ none → a ∉ G0.a := fun a h => o.al.off (.inr (.inr h))
  refine ⟨⟨o.up.g.trans i.up.g, fun b u h => ?_, i.up.le, fun b n m => ?_⟩, fun j f hj => ?_, o.ne, o.len, i.al.len, i.al.nd, fun l a ha => ?_, fun j l hj => ?_, fun j f p hj m s => ?_⟩
  · exact i.up.h b u (by rw [hide_of (off b (by rw [h]; simp))]; exact o.up.h _ _ h)
  · have hb : H b ≠ none := fun z => m (o.up.h.free z)
    exact i.up.new b (o.up.new b n m) (by rw [hide_of (off b m)]; exact hb)
  · obtain ⟨u, a2, b2⟩ := o.get j f hj
    refine ⟨u, a2, b2.up' i.up.g fun q o' ev mf hq hgq _ => ?_⟩
    subst ev
    have na := o.al.own j f q hj mf a2
    exact ⟨i.up.h q o' (by rw [hide_of na]; exact hq), i.up.new q hgq (by rw [hide_of na, hq]; simp)⟩
  · obtain ⟨h1, h2, h3, h4⟩ := i.al.cell l a ha
    refine ⟨h1, ?_, h3, h4⟩
    by_cases m : a ∈ G0.a
    · obtain ⟨j, hj⟩ := List.getElem?_of_mem m
      exact (o.al.cell j a hj).2.1
    · rw [hide_of m] at h2
      exact o.up.h.free h2
  · obtain ⟨a, e1, e2⟩ := o.al.loc j l hj
    exact ⟨a, pre_get e1, e2⟩
  · intro z
    have z : p ∈ G0.a ++ β := z
    have na := o.al.own j f p hj m s
    obtain ⟨l, hl⟩ := List.getElem?_of_mem z
    obtain ⟨_, h2, _, _⟩ := i.al.cell l p hl
    rw [hide_of na] at h2
    obtain ⟨u, a2, b2⟩ := o.get j f hj
    obtain ⟨q, ob, e1, e2, _⟩ := b2.at m
    rw [s] at a2
    cases a2
    cases e1
    rw [h2] at e2
    cases e2
/-- after a call -/
def After (ε : Sta) (Ψ : Vl → List Cell → Prop) (x : Vl) (ε' : Sta) : Prop := ∃ ω', Ψ x ω' ∧ ε' = ⟨ε.sl, ω'⟩
theorem run_X {P : PX} {vs : List V} {xs : List Vl} {Ψc : Vl → List Cell → Prop} {E : XK} {Q : VK} (o : Ok K G0 H0 ε σ G H) (r : VlsOk K G0.a G vs xs) (hP : P xs ε.om Ψc)
    (q : ∀ v x ω' G1 G' H', Ψc x ω' → Gr G0 G1 → Ok K G1 H0 ⟨ε.sl, ω'⟩ σ G' H' → Same G G' → VlOk K G1.a G' v x → Q v H') : spX K P vs H Q E :=
  ⟨G, G0.a, xs, ε.om, Ψc, o.inner, r, hP, fun v x ω' β G' H' p i rv => q v x ω' ⟨G0.g, G0.a ++ β⟩ G' H' p ⟨rfl, β, rfl⟩ (o.outer i) i.up.g rv⟩
theorem evy_call {P : PX} {E : XK} {Ψa : List Vl → Sta → Prop} (h : EvYs K tu ε Ψa) (hP : ∀ xs ε', Ψa xs ε' → ∃ Ψc, P xs ε'.om Ψc ∧ ∀ x ω', Ψc x ω' → Ψ x ⟨ε'.sl, ω'⟩) : EvY K (tCall (spX K P) [] E tu) ε Ψ := fun G0 H0 σ G H o Q q =>
  h G0 H0 σ G H o _ fun vs xs ε' G1 G' H' p g o' s r => by
    obtain ⟨Ψc, h1, h2⟩ := hP xs ε' p
    rw [List.append_nil]
    exact run_X o' r h1 fun v x ω' G2 G3 H3 pc g2 o3 s3 r3 => q v x _ G2 G3 H3 (h2 x ω' pc) (g.trans g2) o3 (s.trans s3) r3
theorem evy_meth {P : PX} {E : XK} {Ψa : List Vl → Sta → Prop} {C : Addr} {m : Str} {fs : List (Str × Vl)} (ho : EvL K ta ε l) (hc : ε.om[l]? = some (.ins C fs)) (hm : getX fs m = none) (h : EvYs K tu ε Ψa)
    (hP : ∀ xs ε', Ψa xs ε' → ∃ Ψc, P (.loc l :: xs) ε'.om Ψc ∧ ∀ x ω', Ψc x ω' → Ψ x ⟨ε'.sl, ω'⟩) : EvY K (tMeth C m (spX K P) [] E ta tu) ε Ψ := fun G0 H0 σ G H o Q q =>
  ho G0 H0 σ G H o _ fun a ha => by
    obtain ⟨dx, kvs, e, r0⟩ := o.cell ha hc
    refine ⟨a, dx, kvs, rfl, e, (r0.look m).2 hm, ?_⟩
    refine h G0 H0 σ G H o _ fun vs xs ε' G1 G' H' p g o' s r => ?_
    obtain ⟨Ψc, h1, h2⟩ := hP xs ε' p
    rw [List.append_nil]
    have ra : VlOk K G1.a G' (.ref a) (.loc l) := VlOk.gr (G0 := G0) ⟨a, ha, rfl⟩ g
    exact run_X o' (.cons ra r) h1 fun v x ω' G2 G3 H3 pc g2 o3 s3 r3 => q v x _ G2 G3 H3 (h2 x ω' pc) (g.trans g2) o3 (s.trans s3) r3
/-- a new instance -/
theorem evy_make {P : PX} {E : XK} {Ψa : List Vl → Sta → Prop} {C : Addr} (h : EvYs K tu ε Ψa)
    (hP : ∀ xs ε', Ψa xs ε' → ∃ Ψc, P (.loc ε'.om.length :: xs) (ε'.om ++ [.ins C []]) Ψc ∧ ∀ x ω', Ψc x ω' → x = .dat .non ∧ Ψ (.loc ε'.om.length) ⟨ε'.sl, ω'⟩) : EvY K (tMake C (spX K P) [] E tu) ε Ψ := fun G0 H0 σ G H o Q q =>
  h G0 H0 σ G H o _ fun vs xs ε' G1 G' H' p g o' s r => fun x dx hx hdx nx => by
    obtain ⟨Ψc, h1, h2⟩ := hP xs ε' p
    rw [List.append_nil]
    have u1 : Up G' H' G' (upd H' dx (.own x)) := .own o'.up.le hdx
    have o1 := o'.step u1
    have hx1 : upd H' dx (.own x) x = none := by rw [upd_ne (Ne.symm nx)]; exact hx
    have u2 : Up G' (upd H' dx (.own x)) G' (upd (upd H' dx (.own x)) x (.ins C dx [])) := .own o1.up.le hx1
    have o2 := o1.step u2
    have o3 := o2.cons (a := x) (c := .ins C []) (o'.up.le.free hx) (o'.up.h.free hx) (by rw [upd_same]; simp) (o'.freshA hx) (fun i e hi m => o'.fresh hx hi m) ⟨dx, [], upd_same, .nil⟩
    have rx : VlOk K (G1.a ++ [x]) G' (.ref x) (.loc ε'.om.length) := ⟨x, by rw [← o'.al.len, List.getElem?_append_right (Nat.le_refl _), Nat.sub_self]; rfl, rfl⟩
    exact run_X (ε := ε'.push (.ins C [])) o3 (.cons rx (r.more [x])) h1 fun v y ω' G2 G3 H3 pc g2 o4 s4 r4 => by
      obtain ⟨e, pp⟩ := h2 y ω' pc
      subst e
      cases r4
      exact ⟨rfl, q _ _ _ G2 G3 H3 pp (g.trans (gr_push.trans g2)) o4 (s.trans s4) (rx.up s4 |>.gr (G0 := ⟨G1.g, G1.a ++ [x]⟩) g2)⟩
end

/-! ### statements -/
section
variable {K : PySem.W.Frag} {ε : Sta} {te ta tb td : TE} {tu : TA} {tt : TT} {d : Dat} {ds : List Dat} {l : Nat} {Ψ : Vl → Sta → Prop} {s t u : TS} {Φ : Out → Prop}
theorem ex_setY {i : Nat} (h : EvY K te ε Ψ) (k : ∀ x ε', Ψ x ε' → ExS K u (ε'.set i x.sl) Φ) : ExS K (tSeq (tAsg te (gName i)) u) ε Φ := fun G0 H0 σ G H D o w =>
  h G0 H0 σ G H o _ fun v x ε' G1 G' H' p g o' sm r => k x ε' p G1 H0 _ G' H' D (o'.storeV r) ((w.gr g).up sm)
theorem ex_exprY (h : EvY K te ε Ψ) (k : ∀ x ε', Ψ x ε' → ExS K u ε' Φ) : ExS K (tSeq (tDrop te) u) ε Φ := fun G0 H0 σ G H D o w =>
  h G0 H0 σ G H o _ fun v x ε' G1 G' H' p g o' sm r => k x ε' p G1 H0 _ G' H' D o' ((w.gr g).up sm)
theorem ex_retY (h : EvY K te ε Ψ) (k : ∀ x ε', Ψ x ε' → Φ (.retX x ε')) : ExS K (tRet te) ε Φ := fun G0 H0 σ G H D o w =>
  h G0 H0 σ G H o _ fun v x ε' G1 G' H' p g o' sm r => w.rx x ε' v G1 σ G' H' g (k x ε' p) o' r
theorem ex_retNX (k : Φ (.retX (.dat .non) ε)) : ExS K tRetN ε Φ := fun G0 H0 σ G H D o w => w.rx (.dat .non) ε .non G0 σ G H .refl k o .non
/-- o.f = e -/
theorem ex_fld {f : Str} (h : EvY K te ε Ψ) (k : ∀ x ε', Ψ x ε' → ∃ l C fs, EvL K ta ε' l ∧ ε'.om[l]? = some (.ins C fs) ∧ Cls K C ∧ NoAttr K C f ∧ fs.length < 1000 ∧ ExS K u (ε'.put l (.ins C (putX fs f x))) Φ) :
    ExS K (tSeq (sFld K ta te f) u) ε Φ := fun G0 H0 σ G H D o w =>
  h G0 H0 σ G H o _ fun v x ε' G1 G' H' p g o' sm r => by
    obtain ⟨l, C, fs, h1, h2, h3, h4, h5, h6⟩ := k x ε' p
    refine h1 G1 H0 σ G' H' o' _ fun a ha => ?_
    obtain ⟨dx, kvs, e, r0⟩ := o'.cell ha h2
    exact ⟨a, C, dx, kvs, rfl, e, h3, h4, by rw [r0.len]; exact h5, h6 G1 H0 σ G' _ D (o'.put (c := .ins C (putX fs f x)) ha ⟨dx, _, upd_same, r0.putF f r⟩) ((w.gr g).up sm)⟩
/-- o.append(e), o a cell -/
theorem ex_appY {xs : List Vl} (ho : EvL K ta ε l) (hc : ε.om[l]? = some (.lst xs)) (h : EvY K te ε Ψ) (k : ∀ x ε', Ψ x ε' → ∃ ys, ε'.om[l]? = some (.lst ys) ∧ ys.length < 16777216 ∧ ExS K u (ε'.put l (.lst (ys ++ [x]))) Φ) :
    ExS K (tSeq (tDrop (tBM K "list" rAppend ta (tCons te tNil))) u) ε Φ := fun G0 H0 σ G H D o w =>
  ho G0 H0 σ G H o _ fun a ha => by
    obtain ⟨vs, e, r0⟩ := o.cell ha hc
    refine ⟨.inl ⟨rfl, vs, .inl (.inl e)⟩, h G0 H0 σ G H o _ fun v x ε' G1 G' H' p g o' sm r => ?_⟩
    obtain ⟨ys, h1, h2, h3⟩ := k x ε' p
    have ha1 : G1.a[l]? = some a := by
      obtain ⟨_, β, e⟩ := g
      rw [e]
      exact pre_get ha
    obtain ⟨ws, e2, r2⟩ := o'.cell ha1 h1
    exact ⟨a, ws, v, rfl, rfl, e2, size_lt (by rw [r2.len]; exact h2), h3 G1 H0 σ G' _ D (o'.put (c := .lst (ys ++ [x])) ha1 ⟨_, upd_same, r2.app (.cons r .nil)⟩) ((w.gr g).up sm)⟩
/-- o[k] = e, o a cell -/
theorem PsOk.put {κ : Type} [DecidableEq κ] {α : List Addr} {G : Hp} {vs : List (κ × V)} {xs : List (κ × Vl)} (h : PsOk K α G vs xs) (j : κ) {v : V} {x : Vl} (r : VlOk K α G v x) (nd : (xs.map (·.1)).Nodup) : PsOk K α G (putK vs j v) (putX xs j x) := by
  have an : ∀ {vs : List (κ × V)} {xs : List (κ × Vl)}, PsOk K α G vs xs → (vs.any fun kv => decide (kv.1 = j)) = decide (j ∈ xs.map (·.1)) := fun {vs xs} h => by
    induction h with
    | nil => rfl
    | @cons k v x vs xs a b ih =>
      rw [List.any_cons, ih, List.map_cons]
      by_cases e : k = j
      · subst e
        simp
      · simp [e, Ne.symm e]
  unfold putK
  rw [an h]
  by_cases m : j ∈ xs.map (·.1)
  · rw [decide_eq_true m, if_pos rfl]
    induction h with
    | nil => cases m
    | @cons k w y vs xs a b ih =>
      rw [List.map_cons, List.nodup_cons] at nd
      unfold putX
      rw [List.map_cons]
      by_cases e : k = j
      · subst e
        rw [if_pos rfl, if_pos rfl]
        refine .cons r ?_
        have : ∀ {vs : List (κ × V)} {xs : List (κ × Vl)}, PsOk K α G vs xs → k ∉ xs.map (·.1) → vs.map (fun kv => if kv.1 = k then (kv.1, v) else kv) = vs := fun {vs xs} h n => by
          induction h with
          | nil => rfl
          | @cons k' w' y' vs xs a b ih =>
            rw [List.map_cons, List.mem_cons, not_or] at n
            rw [List.map_cons, if_neg (fun z => n.1 z.symm), ih n.2]
        rw [this b nd.1]
        exact b
      · rw [if_neg e, if_neg e]
        refine .cons a (ih nd.2 ?_)
        rw [List.map_cons, List.mem_cons] at m
        rcases m with m | m
        · exact absurd m.symm e
        · exact m
  · rw [decide_eq_false m, if_neg Bool.false_ne_true]
    clear nd
    induction h with
    | nil => exact .cons r .nil
    | @cons k w y vs xs a b ih =>
      rw [List.map_cons, List.mem_cons, not_or] at m
      unfold putX
      rw [if_neg (fun z => m.1 z.symm)]
      exact .cons a (ih m.2)
theorem ex_dputC {ty : TE} {k : Key} {kvs : List (Key × Vl)} (hv : EvD K te ε d) (h : EvL K td ε l) (hc : ε.om[l]? = some (.dic kvs)) (hy : EvH K ty ε (keyD k)) (nd : (kvs.map (·.1)).Nodup) (hl : kvs.length < 16777216)
    (q : ExS K u (ε.put l (.dic (putX kvs k (.dat d)))) Φ) : ExS K (tSeq (sDPut td ty te) u) ε Φ := fun G0 H0 σ G H D o w =>
  hv G0 H0 σ G H o _ fun v G1 H1 o1 u1 r1 => h G0 H0 σ G1 H1 o1 _ fun a ha => hy G0 H0 σ G1 H1 o1 _ fun y G2 H2 o2 u2 r2 => by
    obtain ⟨vs, e, r0⟩ := o2.cell ha hc
    rw [r2.keyD]
    exact ⟨a, _, rfl, DPut.k e (size_lt (by rw [r0.len]; exact hl)), q G0 H0 σ G2 _ D (o2.put (c := .dic (putX kvs k (.dat d))) ha ⟨_, upd_same, r0.put k (x := .dat d) (r1.up u2.g) nd⟩) (w.up (u1.trans u2).g)⟩
/-- keys and data with a key's datum anew -/
def putKs : List Key → Key → List Key
  | [], j => [j]
  | k :: ks, j => if k = j then k :: ks else k :: putKs ks j
def putDs : List Key → List Dat → Key → Dat → List Dat
  | k :: ks, d :: ds, j, y => if k = j then y :: ds else d :: putDs ks ds j y
  | _, _, _, y => [y]
theorem put_ks : ∀ {κs : List (Key × V)} {j : Key} {v : V}, (κs.map (·.1)).Nodup → (putK κs j v).map (·.1) = putKs (κs.map (·.1)) j := fun {κs j v} nd => by
  unfold putK
  rw [valV_any]
  induction κs with
  | nil => rfl
  | cons p r ih =>
    obtain ⟨k, x⟩ := p
    rw [List.map_cons, List.nodup_cons] at nd
    have ih := ih nd.2
    by_cases e : k = j
    · subst e
      rw [valV_pos rfl]
      simp only [Option.isSome_some, if_true, List.map_cons, List.map_map]
      unfold putKs
      rw [if_pos rfl]
      congr 1
      apply List.map_congr_left
      intro p _
      simp only [Function.comp]
      split
      · rfl
      · rfl
    · rw [valV_neg e]
      show _ = putKs (k :: r.map (·.1)) j
      unfold putKs
      rw [if_neg e, ← ih]
      split
      · rw [List.map_cons, List.map_cons, if_neg e]
      · rw [List.cons_append, List.map_cons]
theorem put_ds {G : Hp} : ∀ {κs : List (Key × V)} {ds : List Dat} {j : Key} {v : V} {d : Dat}, (κs.map (·.1)).Nodup → RL K G (κs.map (·.2)) ds → R K G v d → RL K G ((putK κs j v).map (·.2)) (putDs (κs.map (·.1)) ds j d) := fun {κs ds j v d} nd h r => by
  unfold putK
  rw [valV_any]
  induction κs generalizing ds with
  | nil => cases h; exact .one r
  | cons p rest ih =>
    obtain ⟨k, x⟩ := p
    rw [List.map_cons, List.nodup_cons] at nd
    cases h with
    | @cons _ d1 _ ds a b =>
      have ih := ih nd.2 b
      by_cases e : k = j
      · subst e
        rw [valV_pos rfl]
        simp only [Option.isSome_some, if_true, List.map_cons, List.map_map]
        unfold putDs
        rw [if_pos rfl]
        refine .cons r ?_
        have : rest.map ((fun x => x.2) ∘ fun kv => if kv.1 = k then (kv.1, v) else kv) = rest.map (·.2) := by
          apply List.map_congr_left
          intro p hp
          have : p.1 ≠ k := fun z => nd.1 (List.mem_map.mpr ⟨p, hp, z⟩)
          simp [this]
        rw [this]
        exact b
      · rw [valV_neg e]
        show RL K G _ (putDs (k :: rest.map (·.1)) (d1 :: ds) j d)
        unfold putDs
        rw [if_neg e]
        split
        · rename_i q
          rw [List.map_cons, List.map_cons, if_neg e]
          refine .cons a ?_
          rw [if_pos q] at ih
          exact ih
        · rename_i q
          rw [List.cons_append, List.map_cons]
          refine .cons a ?_
          rw [if_neg q] at ih
          exact ih
theorem ex_dputO {i : Nat} {ty : TE} {k : Key} {ks : List Key} {d : Dat} (hv : EvD K te ε d) (h : ε[i]? = some (.ownD ks ds)) (hy : EvH K ty ε (keyD k)) (nd : ks.Nodup) (hl : ks.length < 16777216)
    (q : ExS K u (ε.set i (.ownD (putKs ks k) (putDs ks ds k d))) Φ) : ExS K (tSeq (sDPut (tVar i) ty te) u) ε Φ := fun G0 H0 σ G H D o w =>
  hv G0 H0 σ G H o _ fun v G1 H1 o1 u1 r1 => by
    obtain ⟨w0, a, p, kvs, e, hp, hg, h0, e2, r⟩ := o1.get i _ h
    subst e e2
    refine ⟨_, a, hy G0 H0 σ G1 H1 o1 _ fun y G2 H2 o2 u2 r2 => ?_⟩
    have hp2 := u2.h _ _ hp
    have hg2 := u2.new p hg (by rw [hp]; simp)
    rw [r2.keyD]
    refine ⟨p, _, rfl, DPut.k hp2 (size_lt (by rw [List.length_map] at hl; exact hl)), ?_⟩
    exact q G0 H0 σ G2 _ D (o2.write (e := .ownD (kvs.map (·.1)) ds) (f := .ownD _ _) h rfl a ⟨p, _, rfl, upd_same, hg2, h0, (put_ks nd).symm, put_ds nd (r.up u2.g) (r1.up u2.g)⟩ rfl) (w.up (u1.trans u2).g)
/-- our own dict stands from now on -/
theorem ex_standD {i : Nat} {ks : List Key} (h : ε[i]? = some (.ownD ks ds)) (k : ExS K t (ε.set i (.dat (.dic ks ds))) Φ) : ExS K t ε Φ := fun G0 H0 σ G H D o w => by
  obtain ⟨p, ob, _, hg, o1⟩ := o.standD h
  exact k G0 H0 σ _ H D o1 (w.up (same_upd hg))
/-- while: I tells the state by a measure -/
theorem ex_while {tc : TT} (I : Nat → Sta → Prop) (m0 : Nat) (h0 : I m0 ε) (hs : ∀ m ε', I m ε' → ∃ b, EvT K tc ε' b ∧ (b = true → ExS K t ε' (Turns Φ (fun e => ∃ n, n < m ∧ I n e) fun e => ExS K u e Φ)) ∧ (b = false → ExS K u ε' Φ)) :
    ExS K (tSeq (tWhile tc t) u) ε Φ := fun G0 H0 σ G H D o w => by
  refine ⟨fun m σ' H' => ∃ ε' G1 G', Gr G0 G1 ∧ I m ε' ∧ Ok K G1 H0 ε' σ' G' H' ∧ Same G G', ⟨m0, ε, G0, G, .refl, h0, o, .refl _⟩, ?_⟩
  rintro m σ' H' ⟨ε', G1, G', g, hI, o', s'⟩
  obtain ⟨b, hb, ht, hf⟩ := hs m ε' hI
  have w1 := w.gr g
  refine hb G1 H0 σ' G' H' o' _ fun G2 H2 o2 u2 => ?_
  have s2 := s'.trans u2.g
  cases b with
  | true =>
    rw [if_pos rfl]
    refine ⟨fun σ3 H3 => ∃ n e G8 G3, n < m ∧ Gr G0 G8 ∧ I n e ∧ Ok K G8 H0 e σ3 G3 H3 ∧ Same G G3, fun σ3 H3 ⟨n, e, G8, G3, a, b, c, d, f⟩ => ⟨n, a, e, G8, G3, b, c, d, f⟩, ?_⟩
    exact ht rfl G1 H0 σ' G2 H2 _ o2 ⟨fun G8 e σ3 G3 H3 g3 ⟨n, q1, q2⟩ o3 s3 => ⟨n, e, G8, G3, q1, g.trans g3, q2, o3, s2.trans s3⟩, fun G8 e σ3 G3 H3 g3 p o3 s3 => p G8 H0 σ3 G3 H3 D o3 ((w1.gr g3).up (s2.trans s3)),
      fun G8 e σ3 G3 H3 g3 ⟨n, q1, q2⟩ o3 s3 => ⟨n, e, G8, G3, q1, g.trans g3, q2, o3, s2.trans s3⟩, fun r v G3 H3 p q => w1.rt r v G3 H3 p q, fun x e v G8 σ3 G3 H3 g3 p o3 q => w1.rx x e v G8 σ3 G3 H3 g3 p o3 q⟩
  | false =>
    rw [if_neg Bool.false_ne_true]
    exact hf rfl G1 H0 σ' G2 H2 D o2 (w1.up s2)
end

/-! ### defs that may change cells -/
def DoneX (Ψ : Vl → List Cell → Prop) : Out → Prop
  | .retX x ε => Ψ x ε.om
  | .nx ε => Ψ (.dat .non) ε.om
  | _ => False
theorem ok_defX {P : Program} {w : World} {K : PySem.W.Frag} {mg : Str → Option Value} {base : Heap} {qual : Str} {st : Stmt} {f : Addr} {fd : FuncData} {N ps : List Str} {k : Nat} {Pm : PX} (F : FnRule K qual st f fd) (S : FnScope N ps (defScope st)) (hl : ∀ xs ω Ψ, Pm xs ω Ψ → xs.length = ps.length)
    (hbody : ∀ (cdv : Value) (A : Around) (outer : List Env) (s : Shared) (H : Hp) (E : XK), Room k (A.deeper (envOfC qual (defScope st) s.heap.objs.size f cdv)) →
      ∃ t, PSs (cxOf CX0 P w K mg base N qual (defScope st) f cdv A outer s H E).nox (defBody st) t ∧ ∀ xs ω Ψ, Pm xs ω Ψ → ExS K t (startX N.length xs ω) (DoneX Ψ)) : FnOk P w K mg base CX0 (k + 1) f fd ps (spX K Pm) := by
  refine F P w mg base N ps k _ S (fun vs H Q E h => ?_) (fun cdv A outer s H vs Q E hr h => ?_)
  · obtain ⟨G, α, xs, ω, Ψ, _, hR, hP, _⟩ := h
    rw [hR.len]
    exact hl xs ω Ψ hP
  · obtain ⟨G, α, xs, ω, Ψ, o, hR, hP, q⟩ := h
    obtain ⟨t, hT, hE⟩ := hbody cdv A outer s H E hr
    refine ⟨t, hT, hE xs ω Ψ hP ⟨G, α⟩ (hide H α) _ G H _ (start_okX o hR) ⟨fun G1 ε σ G' H' g p o1 _ => ?_, fun _ ε σ G' H' g p => p.elim, fun _ ε σ G' H' g p => p.elim, fun r' v G' H' p o => p.elim, fun x ε v G1 σ G' H' g p o1 rv => ?_⟩⟩
    · obtain ⟨e, β, e2⟩ := g
      have o2 : Ok K ⟨G, α ++ β⟩ (hide H α) ⟨[], ε.om⟩ [] G' H' := by
        have o1 : Ok K ⟨G1.g, G1.a⟩ (hide H α) ε σ G' H' := o1
        rw [e, e2] at o1
        exact o1.bare
      exact q .non (.dat .non) ε.om β G' H' p o2 .non
    · obtain ⟨e, β, e2⟩ := g
      have o2 : Ok K ⟨G, α ++ β⟩ (hide H α) ⟨[], ε.om⟩ [] G' H' := by
        have o1 : Ok K ⟨G1.g, G1.a⟩ (hide H α) ε σ G' H' := o1
        rw [e, e2] at o1
        exact o1.bare
      rw [e2] at rv
      exact q v x ε.om β G' H' p o2 rv
end Pu
set_option Elab.async false
set_option linter.all false
set_option maxRecDepth 100000
set_option maxHeartbeats 4000000
set_option autoImplicit false
/-! the machine: cores, values, tasks, its turns; what is law-free of its walk -/
namespace Pu
open PySem PySem.Spec PyProof.Rows L2

inductive Core where
  | num (n : Int)
  | free (x : Str)
  | seen (p : Int)
  | fn (ps : List (Int × Str)) (b : Core)
  | call (f : Core) (xs : List Core)
  | pick (a b c : Core)
  | now (a : Core)
inductive Val where
  | num (n : Int)
  | op (x : Str)
  | fn (ps : List (Int × Str)) (b : Core) (ks : List Int) (vs : List Val)
def parD (p : Int × Str) : Dat := .tup [.int p.1, .str p.2]
mutual
def Core.dat : Core → Dat
  | .num n => .tup [.str "num", .int n]
  | .free x => .tup [.str "free", .str x]
  | .seen p => .tup [.str "seen", .int p]
  | .fn ps b => .tup [.str "fn", .tup (ps.map parD), b.dat]
  | .call f xs => .tup [.str "call", f.dat, .tup (coresD xs)]
  | .pick a b c => .tup [.str "pick", a.dat, b.dat, c.dat]
  | .now a => .tup [.str "now", a.dat]
def coresD : List Core → List Dat
  | [] => []
  | c :: cs => c.dat :: coresD cs
end
mutual
def Val.dat : Val → Dat
  | .num n => .tup [.str "num", .int n]
  | .op x => .tup [.str "op", .str x]
  | .fn ps b ks vs => .tup [.str "fn", .tup (ps.map parD), b.dat, .dic (ks.map Sum.inl) (valsD vs)]
def valsD : List Val → List Dat
  | [] => []
  | v :: vs => v.dat :: valsD vs
end
theorem coresD_map : ∀ xs : List Core, coresD xs = xs.map Core.dat
  | [] => by simp [coresD]
  | c :: cs => by simp [coresD, coresD_map cs]
theorem valsD_map : ∀ xs : List Val, valsD xs = xs.map Val.dat
  | [] => by simp [valsD]
  | c :: cs => by simp [valsD, valsD_map cs]
inductive Task where
  | core (c : Core) (ks : List Int) (vs : List Val)
  | pick (b c : Core) (ks : List Int) (vs : List Val)
  | call (n : Nat)
def envD (ks : List Int) (vs : List Val) : Dat := .dic (ks.map Sum.inl) (vs.map Val.dat)
def Task.dat : Task → Dat
  | .core c ks vs => .tup [.str "core", c.dat, envD ks vs]
  | .pick b c ks vs => .tup [.str "pick", b.dat, c.dat, envD ks vs]
  | .call n => .tup [.str "call", .int n]
structure MSt where
  tk : List Int
  tv : List Val
  left : Int
  todo : List Task
  found : List Val
  ended : Option Str
def lookE : List Int → List Val → Int → Option Val
  | k :: ks, v :: vs, p => if k = p then some v else lookE ks vs p
  | _, _, _ => none
def pKs : List Int → Int → List Int
  | [], j => [j]
  | k :: ks, j => if k = j then k :: ks else k :: pKs ks j
def pVs : List Int → List Val → Int → Val → List Val
  | k :: ks, v :: vs, j, y => if k = j then y :: vs else v :: pVs ks vs j y
  | _, _, _, y => [y]
def bKs : List (Int × Str) → List Val → List Int → List Int
  | p :: ps, _ :: us, ks => bKs ps us (pKs ks p.1)
  | _, _, ks => ks
def bVs : List (Int × Str) → List Val → List Int → List Val → List Val
  | p :: ps, u :: us, ks, vs => bVs ps us (pKs ks p.1) (pVs ks vs p.1 u)
  | _, _, _, vs => vs
theorem pKs_ks : ∀ (ks : List Int) (p : Int), putKs (ks.map Sum.inl) (.inl p) = (pKs ks p).map (Sum.inl : Int → Key)
  | [], p => rfl
  | k :: ks, p => by
    show (if (Sum.inl k : Key) = .inl p then _ else _) = List.map _ (if k = p then _ else _)
    by_cases e : k = p
    · subst e
      simp
    · have : ¬ (Sum.inl k : Key) = .inl p := fun z => e (Sum.inl.inj z)
      rw [if_neg this, if_neg e, List.map_cons, ← pKs_ks ks p]
theorem pVs_ds : ∀ (ks : List Int) (vs : List Val) (p : Int) (v : Val), putDs (ks.map Sum.inl) (vs.map Val.dat) (.inl p) v.dat = (pVs ks vs p v).map Val.dat
  | [], vs, p, v => by simp [putDs, pVs]
  | _ :: _, [], p, v => by simp [putDs, pVs]
  | k :: ks, w :: vs, p, v => by
    show (if (Sum.inl k : Key) = .inl p then _ else _) = List.map _ (if k = p then _ else _)
    by_cases e : k = p
    · subst e
      simp
    · have : ¬ (Sum.inl k : Key) = .inl p := fun z => e (Sum.inl.inj z)
      rw [if_neg this, if_neg e, List.map_cons, ← pVs_ds ks vs p v]
theorem lookE_D : ∀ (ks : List Int) (vs : List Val) (p : Int), lookD (ks.map Sum.inl) (vs.map Val.dat) (.inl p) = (lookE ks vs p).map Val.dat
  | [], vs, p => by simp [lookD, lookE]
  | _ :: _, [], p => by simp [lookD, lookE]
  | k :: ks, w :: vs, p => by
    show (if (Sum.inl k : Key) = .inl p then _ else _) = Option.map _ (if k = p then _ else _)
    by_cases e : k = p
    · subst e
      simp
    · have : ¬ (Sum.inl k : Key) = .inl p := fun z => e (Sum.inl.inj z)
      rw [if_neg this, if_neg e, ← lookE_D ks vs p]
theorem pKs_mem : ∀ {ks : List Int} {p q : Int}, q ∈ pKs ks p ↔ q = p ∨ q ∈ ks
  | [], p, q => by simp [pKs]
  | k :: ks, p, q => by
    unfold pKs
    by_cases e : k = p
    · subst e
      simp
    · rw [if_neg e, List.mem_cons, pKs_mem, List.mem_cons]
      constructor
      · rintro (h | h | h)
        · exact .inr (.inl h)
        · exact .inl h
        · exact .inr (.inr h)
      · rintro (h | h | h)
        · exact .inr (.inl h)
        · exact .inl h
        · exact .inr (.inr h)
theorem pKs_nodup : ∀ {ks : List Int} {p : Int}, ks.Nodup → (pKs ks p).Nodup
  | [], p, _ => by simp [pKs]
  | k :: ks, p, h => by
    unfold pKs
    rw [List.nodup_cons] at h
    by_cases e : k = p
    · rw [if_pos e, List.nodup_cons]
      exact h
    · rw [if_neg e, List.nodup_cons]
      exact ⟨fun z => by
        rcases pKs_mem.mp z with z | z
        · exact e z
        · exact h.1 z, pKs_nodup h.2⟩
theorem pKs_len : ∀ (ks : List Int) (p : Int), (pKs ks p).length ≤ ks.length + 1
  | [], p => by simp [pKs]
  | k :: ks, p => by
    have := pKs_len ks p
    unfold pKs
    split <;> simp <;> omega
theorem bKs_nodup : ∀ {ps : List (Int × Str)} {us : List Val} {ks : List Int}, ks.Nodup → (bKs ps us ks).Nodup
  | [], us, ks, h => by unfold bKs; exact h
  | p :: ps, [], ks, h => by unfold bKs; exact h
  | p :: ps, u :: us, ks, h => by unfold bKs; exact bKs_nodup (pKs_nodup h)
theorem bKs_len : ∀ (ps : List (Int × Str)) (us : List Val) (ks : List Int), (bKs ps us ks).length ≤ ks.length + ps.length
  | [], us, ks => by unfold bKs; simp
  | p :: ps, [], ks => by unfold bKs; simp
  | p :: ps, u :: us, ks => by
    unfold bKs
    have := bKs_len ps us (pKs ks p.1)
    have := pKs_len ks p.1
    simp only [List.length_cons]
    omega

theorem bind_snoc : ∀ (ps : List (Int × Str)) (us : List Val) (ks : List Int) (vs : List Val) (p : Int × Str) (u : Val), ps.length = us.length →
    bKs (ps ++ [p]) (us ++ [u]) ks = pKs (bKs ps us ks) p.1 ∧ bVs (ps ++ [p]) (us ++ [u]) ks vs = pVs (bKs ps us ks) (bVs ps us ks vs) p.1 u
  | [], [], ks, vs, p, u, _ => ⟨rfl, rfl⟩
  | [], _ :: _, ks, vs, p, u, h => by simp at h
  | _ :: _, [], ks, vs, p, u, h => by simp at h
  | q :: ps, w :: us, ks, vs, p, u, h => bind_snoc ps us (pKs ks q.1) (pVs ks vs q.1 w) p u (by simpa using h)

/-! ### its turns -/
def reck (x : Str) (a b : Int) : Int := if x = "add" then a + b else if x = "sub" then a - b else if a < b then 1 else 0
def isOp (x : Str) : Bool := x == "add" || (x == "sub" || x == "less")
def MSt.push (m : MSt) (v : Val) : MSt := { m with found := v :: m.found }
def MSt.stop (m : MSt) (s : Str) : MSt := { m with ended := some s }
def MSt.go (m : MSt) (t : Task) : MSt := { m with todo := t :: m.todo }
def goAll (m : MSt) (ks : List Int) (vs : List Val) (xs : List Core) : MSt := { m with todo := xs.map (fun c => Task.core c ks vs) ++ m.todo }
def comeM (m : MSt) (ks : List Int) (vs : List Val) : Core → MSt
  | .num n => m.push (.num n)
  | .free x => if isOp x = true then m.push (.op x) else m.stop "stuck"
  | .seen p => match lookE ks vs p with
    | some v => m.push v
    | none => match lookE m.tk m.tv p with
      | some v => m.push v
      | none => m.stop "stuck"
  | .fn ps b => m.push (.fn ps b ks vs)
  | .call f xs => (goAll (m.go (.call xs.length)) ks vs xs).go (.core f ks vs)
  | .pick a b c => (m.go (.pick b c ks vs)).go (.core a ks vs)
  | .now a => m.go (.core a ks vs)
def chooseM (m : MSt) (b c : Core) (ks : List Int) (vs : List Val) : Val → MSt
  | .num n => if n = 0 then m.go (.core c ks vs) else m.go (.core b ks vs)
  | _ => m.stop "stuck"
def enterM (m : MSt) (ps : List (Int × Str)) (b : Core) (ks : List Int) (vs : List Val) (us : List Val) : MSt :=
  if m.left = 0 then m.stop "on" else { m with left := m.left - 1, todo := .core b (bKs ps us ks) (bVs ps us ks vs) :: m.todo }
def callM (m : MSt) (us : List Val) : Val → MSt
  | .fn ps b ks vs => if ps.length = us.length then enterM m ps b ks vs us else m.stop "stuck"
  | .op x => match us with
    | [.num a, .num b] => m.push (.num (reck x a b))
    | _ => m.stop "stuck"
  | .num _ => m.stop "stuck"
/-- what the sizes must be for a turn -/
def Room24 (n : Nat) : Prop := n < 16777216
inductive Turn1 : MSt → MSt → Prop
  | come {m : MSt} {c : Core} {ks : List Int} {vs : List Val} {r : List Task} (hc : m.ended = none) (ht : m.todo = .core c ks vs :: r) (h1 : m.found.length < 16777216) (h2 : ∀ f xs, c = .call f xs → r.length + xs.length + 2 < 16777216) (h3 : r.length + 2 < 16777216) : Turn1 m (comeM { m with todo := r } ks vs c)
  | pick {m : MSt} {b c : Core} {ks : List Int} {vs : List Val} {r : List Task} {v : Val} {F : List Val} (hc : m.ended = none) (ht : m.todo = .pick b c ks vs :: r) (hf : m.found = v :: F) (h3 : r.length + 2 < 16777216) : Turn1 m (chooseM { m with todo := r, found := F } b c ks vs v)
  | call {m : MSt} {n : Nat} {r : List Task} {v : Val} {us F : List Val} (hc : m.ended = none) (ht : m.todo = .call n :: r) (hf : m.found = us.reverse ++ v :: F) (hn : us.length = n) (h1 : m.found.length < 16777216) (h3 : r.length + 2 < 16777216)
    (h4 : ∀ ps b ks vs, v = .fn ps b ks vs → ks.Nodup ∧ ks.length + ps.length < 16777216) : Turn1 m (callM { m with todo := r, found := F } us v)
inductive Runs : Nat → MSt → MSt → Prop
  | nil {m : MSt} : Runs 0 m m
  | cons {n : Nat} {a b c : MSt} : Turn1 a b → Runs n b c → Runs (n + 1) a c
theorem Runs.trans {n k : Nat} {a b c : MSt} (h : Runs n a b) (g : Runs k b c) : Runs (n + k) a c := by
  induction h with
  | nil => rw [Nat.zero_add]; exact g
  | @cons n a b c t _ ih =>
    have := Runs.cons t (ih g)
    rwa [show n + 1 + k = n + k + 1 by omega]
def Reach (a b : MSt) : Prop := ∃ n, Runs n a b
theorem Reach.refl {a : MSt} : Reach a a := ⟨0, .nil⟩
theorem Reach.trans {a b c : MSt} (h : Reach a b) (g : Reach b c) : Reach a c := by
  obtain ⟨n, h⟩ := h
  obtain ⟨k, g⟩ := g
  exact ⟨_, h.trans g⟩
theorem Reach.one {a b : MSt} (h : Turn1 a b) : Reach a b := ⟨1, .cons h .nil⟩

/-! ### in one go -/
inductive Job where
  | one (ks : List Int) (vs : List Val) (c : Core)
  | many (ks : List Int) (vs : List Val) (xs : List Core)
  | app (v : Val) (us : List Val)
inductive Ans where
  | val (v : Val)
  | vals (us : List Val)
  | fin (s : Str)
/-- with k of fuel the job comes to the answer, k' of fuel left, d more rows at most -/
inductive Ev (tk : List Int) (tv : List Val) : Nat → Job → Ans → Nat → Nat → Prop
  | num {k : Nat} {ks : List Int} {vs : List Val} {n : Int} : Ev tk tv k (.one ks vs (.num n)) (.val (.num n)) k 0
  | free {k : Nat} {ks : List Int} {vs : List Val} {x : Str} (h : isOp x = true) : Ev tk tv k (.one ks vs (.free x)) (.val (.op x)) k 0
  | freeS {k : Nat} {ks : List Int} {vs : List Val} {x : Str} (h : isOp x = false) : Ev tk tv k (.one ks vs (.free x)) (.fin "stuck") k 0
  | seenK {k : Nat} {ks : List Int} {vs : List Val} {p : Int} {v : Val} (h : lookE ks vs p = some v) : Ev tk tv k (.one ks vs (.seen p)) (.val v) k 0
  | seenT {k : Nat} {ks : List Int} {vs : List Val} {p : Int} {v : Val} (h : lookE ks vs p = none) (h2 : lookE tk tv p = some v) : Ev tk tv k (.one ks vs (.seen p)) (.val v) k 0
  | seenS {k : Nat} {ks : List Int} {vs : List Val} {p : Int} (h : lookE ks vs p = none) (h2 : lookE tk tv p = none) : Ev tk tv k (.one ks vs (.seen p)) (.fin "stuck") k 0
  | fn {k : Nat} {ks : List Int} {vs : List Val} {ps : List (Int × Str)} {b : Core} : Ev tk tv k (.one ks vs (.fn ps b)) (.val (.fn ps b ks vs)) k 0
  | now {k k' d : Nat} {ks : List Int} {vs : List Val} {a : Core} {r : Ans} (h : Ev tk tv k (.one ks vs a) r k' d) : Ev tk tv k (.one ks vs (.now a)) r k' (d + 1)
  | pickF {k k' d : Nat} {ks : List Int} {vs : List Val} {a b c : Core} {s : Str} (h : Ev tk tv k (.one ks vs a) (.fin s) k' d) : Ev tk tv k (.one ks vs (.pick a b c)) (.fin s) k' (d + 2)
  | pick {k k1 k2 d d2 : Nat} {ks : List Int} {vs : List Val} {a b c : Core} {n : Int} {r : Ans} (h : Ev tk tv k (.one ks vs a) (.val (.num n)) k1 d) (h2 : Ev tk tv k1 (.one ks vs (if n = 0 then c else b)) r k2 d2) : Ev tk tv k (.one ks vs (.pick a b c)) r k2 (d + d2 + 2)
  | pickS {k k1 d : Nat} {ks : List Int} {vs : List Val} {a b c : Core} {v : Val} (h : Ev tk tv k (.one ks vs a) (.val v) k1 d) (hv : ∀ n, v ≠ .num n) : Ev tk tv k (.one ks vs (.pick a b c)) (.fin "stuck") k1 (d + 2)
  | callF {k k1 d : Nat} {ks : List Int} {vs : List Val} {f : Core} {xs : List Core} {s : Str} (h : Ev tk tv k (.one ks vs f) (.fin s) k1 d) : Ev tk tv k (.one ks vs (.call f xs)) (.fin s) k1 (d + xs.length + 2)
  | callX {k k1 k2 d d2 : Nat} {ks : List Int} {vs : List Val} {f : Core} {xs : List Core} {v : Val} {s : Str} (h : Ev tk tv k (.one ks vs f) (.val v) k1 d) (h2 : Ev tk tv k1 (.many ks vs xs) (.fin s) k2 d2) : Ev tk tv k (.one ks vs (.call f xs)) (.fin s) k2 (d + d2 + xs.length + 2)
  | call {k k1 k2 k3 d d2 d3 : Nat} {ks : List Int} {vs us : List Val} {f : Core} {xs : List Core} {v : Val} {r : Ans} (h : Ev tk tv k (.one ks vs f) (.val v) k1 d) (h2 : Ev tk tv k1 (.many ks vs xs) (.vals us) k2 d2) (h3 : Ev tk tv k2 (.app v us) r k3 d3) :
      Ev tk tv k (.one ks vs (.call f xs)) r k3 (d + d2 + d3 + xs.length + 2)
  | mnil {k : Nat} {ks : List Int} {vs : List Val} : Ev tk tv k (.many ks vs []) (.vals []) k 0
  | mconsF {k k1 d : Nat} {ks : List Int} {vs : List Val} {x : Core} {xs : List Core} {s : Str} (h : Ev tk tv k (.one ks vs x) (.fin s) k1 d) : Ev tk tv k (.many ks vs (x :: xs)) (.fin s) k1 d
  | mconsX {k k1 k2 d d2 : Nat} {ks : List Int} {vs : List Val} {x : Core} {xs : List Core} {v : Val} {s : Str} (h : Ev tk tv k (.one ks vs x) (.val v) k1 d) (h2 : Ev tk tv k1 (.many ks vs xs) (.fin s) k2 d2) : Ev tk tv k (.many ks vs (x :: xs)) (.fin s) k2 (d + d2 + 1)
  | mcons {k k1 k2 d d2 : Nat} {ks : List Int} {vs us : List Val} {x : Core} {xs : List Core} {v : Val} (h : Ev tk tv k (.one ks vs x) (.val v) k1 d) (h2 : Ev tk tv k1 (.many ks vs xs) (.vals us) k2 d2) : Ev tk tv k (.many ks vs (x :: xs)) (.vals (v :: us)) k2 (d + d2 + 1)
  | appO {k : Nat} {ps : List (Int × Str)} {b : Core} {ks : List Int} {vs us : List Val} (hl : ps.length = us.length) (hk : ks.Nodup ∧ ks.length + ps.length < 16777216) (h0 : k = 0) : Ev tk tv k (.app (.fn ps b ks vs) us) (.fin "on") 0 0
  | appE {k k' d : Nat} {ps : List (Int × Str)} {b : Core} {ks : List Int} {vs us : List Val} {r : Ans} (hl : ps.length = us.length) (hk : ks.Nodup ∧ ks.length + ps.length < 16777216) (h : Ev tk tv k (.one (bKs ps us ks) (bVs ps us ks vs) b) r k' d) : Ev tk tv (k + 1) (.app (.fn ps b ks vs) us) r k' (d + 1)
  | appS {k : Nat} {ps : List (Int × Str)} {b : Core} {ks : List Int} {vs us : List Val} (hl : ps.length ≠ us.length) (hk : ks.Nodup ∧ ks.length + ps.length < 16777216) : Ev tk tv k (.app (.fn ps b ks vs) us) (.fin "stuck") k 0
  | appR {k : Nat} {x : Str} {a b : Int} : Ev tk tv k (.app (.op x) [.num a, .num b]) (.val (.num (reck x a b))) k 0
  | appQ {k : Nat} {x : Str} {us : List Val} (h : ∀ a b, us ≠ [.num a, .num b]) : Ev tk tv k (.app (.op x) us) (.fin "stuck") k 0
  | appN {k : Nat} {n : Int} {us : List Val} : Ev tk tv k (.app (.num n) us) (.fin "stuck") k 0
/-- the machine at a job -/
def Job.todo : Job → List Task
  | .one ks vs c => [.core c ks vs]
  | .many ks vs xs => xs.map fun c => .core c ks vs
  | .app _ us => [.call us.length]
def Job.found : Job → List Val
  | .app v us => us.reverse ++ [v]
  | _ => []
def AnsAt (tk : List Int) (tv : List Val) (k : Nat) (R : List Task) (F : List Val) (m : MSt) : Ans → Prop
  | .val v => m = ⟨tk, tv, k, R, v :: F, none⟩
  | .vals us => m = ⟨tk, tv, k, R, us.reverse ++ F, none⟩
  | .fin s => m.ended = some s ∧ m.left = (k : Int) ∧ m.tk = tk ∧ m.tv = tv
theorem come1 {tk : List Int} {tv : List Val} {k : Int} {ks : List Int} {vs : List Val} {c : Core} {R : List Task} {F : List Val} (h1 : F.length < 16777216) (h3 : R.length + 2 < 16777216) (h2 : ∀ f xs, c = .call f xs → R.length + xs.length + 2 < 16777216) :
    Reach ⟨tk, tv, k, .core c ks vs :: R, F, none⟩ (comeM ⟨tk, tv, k, R, F, none⟩ ks vs c) := .one (.come (m := ⟨tk, tv, k, .core c ks vs :: R, F, none⟩) rfl rfl h1 h2 h3)
theorem call1 {tk : List Int} {tv : List Val} {k : Int} {us : List Val} {v : Val} {R : List Task} {F : List Val} (h1 : us.length + F.length + 2 < 16777216) (h3 : R.length + 2 < 16777216) (h4 : ∀ ps b ks vs, v = .fn ps b ks vs → ks.Nodup ∧ ks.length + ps.length < 16777216) :
    Reach ⟨tk, tv, k, .call us.length :: R, us.reverse ++ [v] ++ F, none⟩ (callM ⟨tk, tv, k, R, F, none⟩ us v) :=
  .one (.call (m := ⟨tk, tv, k, .call us.length :: R, us.reverse ++ [v] ++ F, none⟩) rfl rfl (by simp) rfl (by simp; omega) h3 h4)
theorem ev_len {tk : List Int} {tv : List Val} {k k' d : Nat} {j : Job} {r : Ans} (h : Ev tk tv k j r k' d) : ∀ ks vs xs us, j = .many ks vs xs → r = .vals us → us.length = xs.length := by
  induction h with
  | mnil => intro ks vs xs us e1 e2; cases e1; cases e2; rfl
  | mcons _ _ _ ih2 => intro ks vs xs us e1 e2; cases e1; cases e2; simp [ih2 _ _ _ _ rfl rfl]
  | _ => intro ks vs xs us e1 e2; first | (cases e1; done) | (cases e2; done)
theorem ev_runs {tk : List Int} {tv : List Val} {k k' d : Nat} {j : Job} {r : Ans} (h : Ev tk tv k j r k' d) : ∀ (R : List Task) (F : List Val), R.length + d + 4 < 16777216 → F.length + d + 4 < 16777216 →
    (∀ v us, j = .app v us → us.length + F.length + 2 < 16777216) → (∀ ks vs xs, j = .many ks vs xs → F.length + xs.length + d + 4 < 16777216 ∧ R.length + xs.length + d + 4 < 16777216) →
    ∃ m, Reach ⟨tk, tv, k, j.todo ++ R, j.found ++ F, none⟩ m ∧ AnsAt tk tv k' R F m r := by
  induction h with
  | num => intro R F hR hF _ _; exact ⟨_, come1 (R := R) (F := F) (by omega) (by omega) (fun f xs z => by cases z), rfl⟩
  | free h =>
    intro R F hR hF _ _
    refine ⟨_, come1 (R := R) (F := F) (by omega) (by omega) (fun f xs z => by cases z), ?_⟩
    show AnsAt _ _ _ _ _ (if _ then _ else _) _
    rw [if_pos h]
    rfl
  | freeS h =>
    intro R F hR hF _ _
    refine ⟨_, come1 (R := R) (F := F) (by omega) (by omega) (fun f xs z => by cases z), ?_⟩
    show AnsAt _ _ _ _ _ (if _ then _ else _) _
    rw [if_neg (by rw [h]; simp)]
    exact ⟨rfl, rfl, rfl, rfl⟩
  | seenK h =>
    intro R F hR hF _ _
    refine ⟨_, come1 (R := R) (F := F) (by omega) (by omega) (fun f xs z => by cases z), ?_⟩
    simp only [comeM, h]
    rfl
  | seenT h h2 =>
    intro R F hR hF _ _
    refine ⟨_, come1 (R := R) (F := F) (by omega) (by omega) (fun f xs z => by cases z), ?_⟩
    simp only [comeM, h, h2]
    rfl
  | seenS h h2 =>
    intro R F hR hF _ _
    refine ⟨_, come1 (R := R) (F := F) (by omega) (by omega) (fun f xs z => by cases z), ?_⟩
    simp only [comeM, h, h2]
    exact ⟨rfl, rfl, rfl, rfl⟩
  | fn => intro R F hR hF _ _; exact ⟨_, come1 (R := R) (F := F) (by omega) (by omega) (fun f xs z => by cases z), rfl⟩
  | now h ih =>
    intro R F hR hF _ _
    obtain ⟨m, h1, h2⟩ := ih R F (by omega) (by omega) (fun _ _ z => by cases z) (fun _ _ _ z => by cases z)
    exact ⟨m, .trans (come1 (R := R) (F := F) (by omega) (by omega) (fun f xs z => by cases z)) h1, h2⟩
  | @pickF k k' d ks vs a b c s h ih =>
    intro R F hR hF _ _
    obtain ⟨m, h1, h2⟩ := ih (.pick b c ks vs :: R) F (by simp; omega) (by omega) (fun _ _ z => by cases z) (fun _ _ _ z => by cases z)
    exact ⟨m, .trans (come1 (R := R) (F := F) (by omega) (by omega) (fun f xs z => by cases z)) h1, h2⟩
  | @pick k k1 k2 d d2 ks vs a b c n r h h2 ih ih2 =>
    intro R F hR hF _ _
    obtain ⟨m, h3, h4⟩ := ih (.pick b c ks vs :: R) F (by simp; omega) (by omega) (fun _ _ z => by cases z) (fun _ _ _ z => by cases z)
    cases h4
    obtain ⟨m, h5, h6⟩ := ih2 R F (by omega) (by omega) (fun _ _ z => by cases z) (fun _ _ _ z => by cases z)
    refine ⟨m, .trans (.trans (come1 (R := R) (F := F) (by omega) (by omega) (fun f xs z => by cases z)) h3) (.trans (.one (.pick (r := R) rfl rfl rfl (by omega))) ?_), h6⟩
    by_cases e : n = 0
    · simp only [chooseM, if_pos e] at h5 ⊢
      exact h5
    · simp only [chooseM, if_neg e] at h5 ⊢
      exact h5
  | @pickS k k1 d ks vs a b c v h hv ih =>
    intro R F hR hF _ _
    obtain ⟨m, h3, h4⟩ := ih (.pick b c ks vs :: R) F (by simp; omega) (by omega) (fun _ _ z => by cases z) (fun _ _ _ z => by cases z)
    cases h4
    refine ⟨_, .trans (.trans (come1 (R := R) (F := F) (by omega) (by omega) (fun f xs z => by cases z)) h3) (.one (.pick (r := R) rfl rfl rfl (by omega))), ?_⟩
    cases v with
    | num n => exact absurd rfl (hv n)
    | op x => exact ⟨rfl, rfl, rfl, rfl⟩
    | fn ps b ks vs => exact ⟨rfl, rfl, rfl, rfl⟩
  | @callF k k1 d ks vs f xs s h ih =>
    intro R F hR hF _ _
    obtain ⟨m, h1, h2⟩ := ih (xs.map (fun c => .core c ks vs) ++ .call xs.length :: R) F (by simp; omega) (by omega) (fun _ _ z => by cases z) (fun _ _ _ z => by cases z)
    exact ⟨m, .trans (come1 (R := R) (F := F) (by omega) (by omega) (fun f xs z => by cases z; omega)) h1, h2⟩
  | @callX k k1 k2 d d2 ks vs f xs v s h h2 ih ih2 =>
    intro R F hR hF _ _
    obtain ⟨m, h3, h4⟩ := ih (xs.map (fun c => .core c ks vs) ++ .call xs.length :: R) F (by simp; omega) (by omega) (fun _ _ z => by cases z) (fun _ _ _ z => by cases z)
    cases h4
    obtain ⟨m, h5, h6⟩ := ih2 (.call xs.length :: R) (v :: F) (by simp; omega) (by simp; omega) (fun _ _ z => by cases z) (fun _ _ _ z => by cases z; simp; omega)
    exact ⟨m, .trans (.trans (come1 (R := R) (F := F) (by omega) (by omega) (fun f xs z => by cases z; omega)) h3) h5, h6⟩
  | @call k k1 k2 k3 d d2 d3 ks vs us f xs v r h h2 h3 ih ih2 ih3 =>
    intro R F hR hF _ _
    obtain ⟨m, h4, h5⟩ := ih (xs.map (fun c => .core c ks vs) ++ .call xs.length :: R) F (by simp; omega) (by omega) (fun _ _ z => by cases z) (fun _ _ _ z => by cases z)
    cases h5
    obtain ⟨m, h6, h7⟩ := ih2 (.call xs.length :: R) (v :: F) (by simp; omega) (by simp; omega) (fun _ _ z => by cases z) (fun _ _ _ z => by cases z; simp; omega)
    cases h7
    have len : us.length = xs.length := ev_len h2 _ _ _ _ rfl rfl
    obtain ⟨m, h8, h9⟩ := ih3 R F (by omega) (by omega) (fun v us z => by cases z; omega) (fun _ _ _ z => by cases z)
    refine ⟨m, .trans (.trans (come1 (R := R) (F := F) (by omega) (by omega) (fun f xs z => by cases z; omega)) h4) (.trans h6 ?_), h9⟩
    rw [← len]
    simpa [Job.todo, Job.found] using h8
  | mnil => intro R F hR hF _ _; exact ⟨_, .refl, rfl⟩
  | @mconsF k k1 d ks vs x xs s h ih =>
    intro R F hR hF _ hm
    have := hm _ _ _ rfl
    simp at this
    obtain ⟨m, h1, h2⟩ := ih (xs.map (fun c => .core c ks vs) ++ R) F (by simp; omega) (by omega) (fun _ _ z => by cases z) (fun _ _ _ z => by cases z)
    exact ⟨m, h1, h2⟩
  | @mconsX k k1 k2 d d2 ks vs x xs v s h h2 ih ih2 =>
    intro R F hR hF _ hm
    have := hm _ _ _ rfl
    simp at this
    obtain ⟨m, h3, h4⟩ := ih (xs.map (fun c => .core c ks vs) ++ R) F (by simp; omega) (by omega) (fun _ _ z => by cases z) (fun _ _ _ z => by cases z)
    cases h4
    obtain ⟨m, h5, h6⟩ := ih2 R (v :: F) (by omega) (by simp; omega) (fun _ _ z => by cases z) (fun _ _ _ z => by cases z; simp; omega)
    exact ⟨m, .trans h3 h5, h6⟩
  | @mcons k k1 k2 d d2 ks vs us x xs v h h2 ih ih2 =>
    intro R F hR hF _ hm
    have := hm _ _ _ rfl
    simp at this
    obtain ⟨m, h3, h4⟩ := ih (xs.map (fun c => .core c ks vs) ++ R) F (by simp; omega) (by omega) (fun _ _ z => by cases z) (fun _ _ _ z => by cases z)
    cases h4
    obtain ⟨m, h5, h6⟩ := ih2 R (v :: F) (by omega) (by simp; omega) (fun _ _ z => by cases z) (fun _ _ _ z => by cases z; simp; omega)
    refine ⟨m, .trans h3 h5, ?_⟩
    cases h6
    show MSt.mk _ _ _ _ _ _ = MSt.mk _ _ _ _ _ _
    simp
  | @appO k ps b ks vs us hl hk h0 =>
    intro R F hR hF ha _
    have := ha _ _ rfl
    subst h0
    refine ⟨_, call1 (R := R) (F := F) (by first | omega | (simp; omega)) (by omega) (fun ps b ks vs z => by cases z; exact hk), ?_⟩
    simp only [callM, hl, enterM, if_true]
    exact ⟨rfl, rfl, rfl, rfl⟩
  | @appE k k' d ps b ks vs us r hl hk h ih =>
    intro R F hR hF ha _
    have := ha _ _ rfl
    obtain ⟨m, h1, h2⟩ := ih R F (by omega) (by omega) (fun _ _ z => by cases z) (fun _ _ _ z => by cases z)
    refine ⟨m, .trans (call1 (R := R) (F := F) (by first | omega | (simp; omega)) (by omega) (fun ps b ks vs z => by cases z; exact hk)) ?_, h2⟩
    simp only [callM, hl, enterM, if_true]
    rw [if_neg (by omega)]
    have e : ((k + 1 : Nat) : Int) - 1 = (k : Int) := by omega
    rw [e]
    exact h1
  | @appS k ps b ks vs us hl hk =>
    intro R F hR hF ha _
    have := ha _ _ rfl
    refine ⟨_, call1 (R := R) (F := F) (by first | omega | (simp; omega)) (by omega) (fun ps b ks vs z => by cases z; exact hk), ?_⟩
    simp only [callM, if_neg hl]
    exact ⟨rfl, rfl, rfl, rfl⟩
  | @appR k x a b =>
    intro R F hR hF ha _
    exact ⟨_, call1 (R := R) (F := F) (by first | omega | (simp; omega)) (by omega) (fun ps b ks vs z => by cases z), rfl⟩
  | @appQ k x us hu =>
    intro R F hR hF ha _
    have := ha _ _ rfl
    refine ⟨_, call1 (R := R) (F := F) (by first | omega | (simp; omega)) (by omega) (fun ps b ks vs z => by cases z), ?_⟩
    have e : callM ⟨tk, tv, k, R, F, none⟩ us (.op x) = MSt.stop ⟨tk, tv, k, R, F, none⟩ "stuck" := by
      show (match us with | [.num a, .num b] => _ | _ => _) = _
      split
      · exact absurd rfl (hu _ _)
      · rfl
    show AnsAt _ _ _ _ _ (callM ⟨tk, tv, k, R, F, none⟩ us (.op x)) _
    rw [e]
    exact ⟨rfl, rfl, rfl, rfl⟩
  | @appN k n us =>
    intro R F hR hF ha _
    have := ha _ _ rfl
    exact ⟨_, call1 (R := R) (F := F) (by first | omega | (simp; omega)) (by omega) (fun ps b ks vs z => by cases z), rfl, rfl, rfl, rfl⟩
end Pu
set_option Elab.async false
set_option linter.all false
set_option maxRecDepth 100000
set_option maxHeartbeats 4000000
set_option autoImplicit false
/-! the machine as an object: its cells, its fields' rules -/
namespace Pu
open PySem PySem.Spec PyProof.Rows L2
structure MC (K : PySem.W.Frag) (C : Addr) : Prop where
  c : Cls K C
  tops : NoAttr K C "tops"
  left : NoAttr K C "left"
  todo : NoAttr K C "todo"
  found : NoAttr K C "found"
  ended : NoAttr K C "ended"
def endD : Option Str → Dat
  | none => .non
  | some s => .str s
def mFs (a b c : Nat) (n : Int) (e : Dat) : List (Str × Vl) := [("tops", .loc a), ("left", .dat (.int n)), ("todo", .loc b), ("found", .loc c), ("ended", .dat e)]
def topX (ks : List Int) (vs : List Val) : List (Key × Vl) := (ks.zip vs).map fun p => (.inl p.1, .dat p.2.dat)
structure MIs (C : Addr) (ω : List Cell) (l : Nat) (m : MSt) (a b c : Nat) : Prop where
  la : l ≠ a
  lb : l ≠ b
  lc : l ≠ c
  ab : a ≠ b
  ac : a ≠ c
  bc : b ≠ c
  self : ω[l]? = some (.ins C (mFs a b c m.left (endD m.ended)))
  tops : ω[a]? = some (.dic (topX m.tk m.tv))
  todo : ω[b]? = some (.lst ((m.todo.reverse.map Task.dat).map Vl.dat))
  found : ω[c]? = some (.lst ((m.found.reverse.map Val.dat).map Vl.dat))
def MAt (C : Addr) (ω : List Cell) (l : Nat) (m : MSt) : Prop := ∃ a b c, MIs C ω l m a b c
def mF1 (a : Nat) : List (Str × Vl) := [("tops", .loc a)]
def mF2 (a : Nat) (n : Int) : List (Str × Vl) := [("tops", .loc a), ("left", .dat (.int n))]
def mF3 (a b : Nat) (n : Int) : List (Str × Vl) := [("tops", .loc a), ("left", .dat (.int n)), ("todo", .loc b)]
def mF4 (a b c : Nat) (n : Int) : List (Str × Vl) := [("tops", .loc a), ("left", .dat (.int n)), ("todo", .loc b), ("found", .loc c)]
theorem mF_1 {a : Nat} : putX ([] : List (Str × Vl)) "tops" (.loc a) = mF1 a := rfl
theorem mF_2 {a : Nat} {n : Int} : putX (mF1 a) "left" (.dat (.int n)) = mF2 a n := by
  have : ¬ ((Str.ofString "tops" : Str) = "left") := by decide
  simp [mF1, mF2, putX, this]
theorem mF_3 {a b : Nat} {n : Int} : putX (mF2 a n) "todo" (.loc b) = mF3 a b n := by
  have h1 : ¬ ((Str.ofString "tops" : Str) = "todo") := by decide
  have h2 : ¬ ((Str.ofString "left" : Str) = "todo") := by decide
  simp [mF2, mF3, putX, h1, h2]
theorem mF_4 {a b c : Nat} {n : Int} : putX (mF3 a b n) "found" (.loc c) = mF4 a b c n := by
  have h1 : ¬ ((Str.ofString "tops" : Str) = "found") := by decide
  have h2 : ¬ ((Str.ofString "left" : Str) = "found") := by decide
  have h3 : ¬ ((Str.ofString "todo" : Str) = "found") := by decide
  simp [mF3, mF4, putX, h1, h2, h3]
theorem mF_5 {a b c : Nat} {n : Int} : putX (mF4 a b c n) "ended" (.dat .non) = mFs a b c n .non := by
  have h1 : ¬ ((Str.ofString "tops" : Str) = "ended") := by decide
  have h2 : ¬ ((Str.ofString "left" : Str) = "ended") := by decide
  have h3 : ¬ ((Str.ofString "todo" : Str) = "ended") := by decide
  have h4 : ¬ ((Str.ofString "found" : Str) = "ended") := by decide
  simp [mF4, mFs, putX, h1, h2, h3, h4]
theorem set_at {γ : Type} {l : List γ} {i : Nat} {x y : γ} (h : l[i]? = some y) : (l.set i x)[i]? = some x := List.getElem?_set_self (List.getElem?_eq_some_iff.mp h).1
theorem set_off {γ : Type} {l : List γ} {i j : Nat} {x : γ} (h : i ≠ j) : (l.set i x)[j]? = l[j]? := List.getElem?_set_ne h
theorem str_ne {x y : Str} (h : (x == y) = false) : x ≠ y := fun z => by subst z; simp at h
theorem get_tops {a b c : Nat} {n : Int} {e : Dat} : getX (mFs a b c n e) "tops" = some (.loc a) := by simp [mFs, getX]
theorem get_left {a b c : Nat} {n : Int} {e : Dat} : getX (mFs a b c n e) "left" = some (.dat (.int n)) := by
  have : ¬ ((Str.ofString "tops" : Str) = "left") := by decide
  simp [mFs, getX, this]
theorem get_todo {a b c : Nat} {n : Int} {e : Dat} : getX (mFs a b c n e) "todo" = some (.loc b) := by
  have h1 : ¬ ((Str.ofString "tops" : Str) = "todo") := by decide
  have h2 : ¬ ((Str.ofString "left" : Str) = "todo") := by decide
  simp [mFs, getX, h1, h2]
theorem get_found {a b c : Nat} {n : Int} {e : Dat} : getX (mFs a b c n e) "found" = some (.loc c) := by
  have h1 : ¬ ((Str.ofString "tops" : Str) = "found") := by decide
  have h2 : ¬ ((Str.ofString "left" : Str) = "found") := by decide
  have h3 : ¬ ((Str.ofString "todo" : Str) = "found") := by decide
  simp [mFs, getX, h1, h2, h3]
theorem get_ended {a b c : Nat} {n : Int} {e : Dat} : getX (mFs a b c n e) "ended" = some (.dat e) := by
  have h1 : ¬ ((Str.ofString "tops" : Str) = "ended") := by decide
  have h2 : ¬ ((Str.ofString "left" : Str) = "ended") := by decide
  have h3 : ¬ ((Str.ofString "todo" : Str) = "ended") := by decide
  have h4 : ¬ ((Str.ofString "found" : Str) = "ended") := by decide
  simp [mFs, getX, h1, h2, h3, h4]
theorem put_left {a b c : Nat} {n k : Int} {e : Dat} : putX (mFs a b c n e) "left" (.dat (.int k)) = mFs a b c k e := by
  have : ¬ ((Str.ofString "tops" : Str) = "left") := by decide
  simp [mFs, putX, this]
theorem put_todo {a b c d : Nat} {n : Int} {e : Dat} : putX (mFs a b c n e) "todo" (.loc d) = mFs a d c n e := by
  have h1 : ¬ ((Str.ofString "tops" : Str) = "todo") := by decide
  have h2 : ¬ ((Str.ofString "left" : Str) = "todo") := by decide
  simp [mFs, putX, h1, h2]
theorem put_found {a b c d : Nat} {n : Int} {e : Dat} : putX (mFs a b c n e) "found" (.loc d) = mFs a b d n e := by
  have h1 : ¬ ((Str.ofString "tops" : Str) = "found") := by decide
  have h2 : ¬ ((Str.ofString "left" : Str) = "found") := by decide
  have h3 : ¬ ((Str.ofString "todo" : Str) = "found") := by decide
  simp [mFs, putX, h1, h2, h3]
theorem put_ended {a b c : Nat} {n : Int} {e f : Dat} : putX (mFs a b c n e) "ended" (.dat f) = mFs a b c n f := by
  have h1 : ¬ ((Str.ofString "tops" : Str) = "ended") := by decide
  have h2 : ¬ ((Str.ofString "left" : Str) = "ended") := by decide
  have h3 : ¬ ((Str.ofString "todo" : Str) = "ended") := by decide
  have h4 : ¬ ((Str.ofString "found" : Str) = "ended") := by decide
  simp [mFs, putX, h1, h2, h3, h4]
section
variable {C : Addr} {ω : List Cell} {l a b c : Nat} {m : MSt}
theorem MIs.setTodo (h : MIs C ω l m a b c) (t : List Task) : MIs C (ω.set b (.lst ((t.reverse.map Task.dat).map Vl.dat))) l { m with todo := t } a b c :=
  ⟨h.la, h.lb, h.lc, h.ab, h.ac, h.bc, by rw [set_off h.lb.symm]; exact h.self, by rw [set_off h.ab.symm]; exact h.tops, set_at h.todo, by rw [set_off h.bc]; exact h.found⟩
theorem MIs.setFound (h : MIs C ω l m a b c) (t : List Val) : MIs C (ω.set c (.lst ((t.reverse.map Val.dat).map Vl.dat))) l { m with found := t } a b c :=
  ⟨h.la, h.lb, h.lc, h.ab, h.ac, h.bc, by rw [set_off h.lc.symm]; exact h.self, by rw [set_off h.ac.symm]; exact h.tops, by rw [set_off h.bc.symm]; exact h.todo, set_at h.found⟩
theorem MIs.setTops (h : MIs C ω l m a b c) (ks : List Int) (vs : List Val) : MIs C (ω.set a (.dic (topX ks vs))) l { m with tk := ks, tv := vs } a b c :=
  ⟨h.la, h.lb, h.lc, h.ab, h.ac, h.bc, by rw [set_off h.la.symm]; exact h.self, set_at h.tops, by rw [set_off h.ab]; exact h.todo, by rw [set_off h.ac]; exact h.found⟩
theorem MIs.setSelf (h : MIs C ω l m a b c) (n : Int) (e : Option Str) : MIs C (ω.set l (.ins C (mFs a b c n (endD e)))) l { m with left := n, ended := e } a b c :=
  ⟨h.la, h.lb, h.lc, h.ab, h.ac, h.bc, set_at h.self, by rw [set_off h.la]; exact h.tops, by rw [set_off h.lb]; exact h.todo, by rw [set_off h.lc]; exact h.found⟩
theorem pre_some {γ : Type} {l r : List γ} {i : Nat} {x : γ} (h : l[i]? = some x) : (l ++ r)[i]? = some x := pre_get h
theorem lt_of {γ : Type} {l : List γ} {i : Nat} {x : γ} (h : l[i]? = some x) : i < l.length := (List.getElem?_eq_some_iff.mp h).1
theorem at_end {γ : Type} {l : List γ} {x : γ} : (l ++ [x])[l.length]? = some x := by simp
theorem MIs.newTodo (h : MIs C ω l m a b c) (t : List Task) : MIs C ((ω ++ [Cell.lst ((t.reverse.map Task.dat).map Vl.dat)]).set l (.ins C (mFs a ω.length c m.left (endD m.ended)))) l { m with todo := t } a ω.length c := by
  have h1 := lt_of h.self
  have h2 := lt_of h.tops
  have h3 := lt_of h.found
  refine ⟨h.la, by omega, h.lc, by omega, h.ac, by omega, set_at (pre_some h.self), by rw [set_off h.la]; exact pre_some h.tops, by rw [set_off (by omega)]; exact at_end, by rw [set_off h.lc]; exact pre_some h.found⟩
theorem MIs.newFound (h : MIs C ω l m a b c) (t : List Val) : MIs C ((ω ++ [Cell.lst ((t.reverse.map Val.dat).map Vl.dat)]).set l (.ins C (mFs a b ω.length m.left (endD m.ended)))) l { m with found := t } a b ω.length := by
  have h1 := lt_of h.self
  have h2 := lt_of h.tops
  have h3 := lt_of h.todo
  refine ⟨h.la, h.lb, by omega, h.ab, by omega, by omega, set_at (pre_some h.self), by rw [set_off h.la]; exact pre_some h.tops, by rw [set_off h.lb]; exact pre_some h.todo, by rw [set_off (by omega)]; exact at_end⟩
end
theorem topX_get : ∀ (ks : List Int) (vs : List Val) (p : Int), getX (topX ks vs) (.inl p) = (lookE ks vs p).map fun v => Vl.dat v.dat
  | [], vs, p => by simp [topX, getX, lookE]
  | _ :: _, [], p => by simp [topX, getX, lookE]
  | k :: ks, v :: vs, p => by
    show (if (Sum.inl k : Key) = .inl p then _ else getX (topX ks vs) (.inl p)) = Option.map _ (if k = p then _ else _)
    by_cases e : k = p
    · subst e
      simp
    · have : ¬ (Sum.inl k : Key) = .inl p := fun z => e (Sum.inl.inj z)
      rw [if_neg this, if_neg e, topX_get ks vs p]
theorem topX_put : ∀ (ks : List Int) (vs : List Val) (p : Int) (v : Val), ks.length = vs.length → putX (topX ks vs) (.inl p) (.dat v.dat) = topX (pKs ks p) (pVs ks vs p v)
  | [], [], p, v, _ => by simp [topX, putX, pKs, pVs]
  | _ :: _, [], p, v, h => by simp at h
  | [], _ :: _, p, v, h => by simp at h
  | k :: ks, w :: vs, p, v, h => by
    show (if (Sum.inl k : Key) = .inl p then _ else _ :: putX (topX ks vs) (.inl p) (.dat v.dat)) = topX (if k = p then _ else _) (if k = p then _ else _)
    by_cases e : k = p
    · subst e
      rw [if_pos rfl, if_pos rfl, if_pos rfl]
      rfl
    · have : ¬ (Sum.inl k : Key) = .inl p := fun z => e (Sum.inl.inj z)
      rw [if_neg this, if_neg e, if_neg e, topX_put ks vs p v (by simpa using h)]
      rfl
theorem topX_keys : ∀ (ks : List Int) (vs : List Val), ks.length = vs.length → (topX ks vs).map (·.1) = ks.map Sum.inl
  | [], [], _ => rfl
  | _ :: _, [], h => by simp at h
  | [], _ :: _, h => by simp at h
  | k :: ks, w :: vs, h => by
    show Sum.inl k :: (topX ks vs).map (·.1) = _
    rw [topX_keys ks vs (by simpa using h)]
    rfl
theorem nodup_inl {ks : List Int} (h : ks.Nodup) : (ks.map (Sum.inl : Int → Key)).Nodup := by
  unfold List.Nodup
  rw [List.pairwise_map]
  exact h.imp fun n z => n (Sum.inl.inj z)
section
variable {K : PySem.W.Frag} {C : Addr} {sl : List Sl} {ω : List Cell} {l i : Nat} {m : MSt} {te ta td : TE} {tu : TA} {d : Dat} {u t : TS} {Φ : Out → Prop} {Ψ : Vl → Sta → Prop}
theorem sl_at {ω : List Cell} (h : sl[i]? = some (.loc l)) : (Sta.mk sl ω)[i]? = some (.loc l) := h
theorem ml_var (h : sl[i]? = some (.loc l)) : EvL K (tVar i) ⟨sl, ω⟩ l := evl_var h
section
variable (M : MC K C) (h : MAt C ω l m) (hv : sl[i]? = some (.loc l))
include M h hv
/-- self.todo.append(task) -/
theorem ex_todo {t : Task} (he : EvD K te ⟨sl, ω⟩ t.dat) (hl : m.todo.length < 16777216) (k : ∀ ω', MAt C ω' l (m.go t) → ExS K u ⟨sl, ω'⟩ Φ) :
    ExS K (tSeq (tDrop (tBM K "list" rAppend (tFld K (tVar i) "todo") (tCons te tNil))) u) ⟨sl, ω⟩ Φ := by
  obtain ⟨a, b, c, h⟩ := h
  refine ex_appY (evl_fld (ml_var hv) h.self M.c M.todo get_todo) h.todo (evy_d (Ψ := fun x e => x = .dat t.dat ∧ e = ⟨sl, ω⟩) he ⟨rfl, rfl⟩) fun x e p => ?_
  obtain ⟨rfl, rfl⟩ := p
  refine ⟨_, h.todo, by simpa using hl, ?_⟩
  have := k _ ⟨a, b, c, h.setTodo (t :: m.todo)⟩
  rw [List.reverse_cons, List.map_append, List.map_append] at this
  exact this
theorem ex_found {v : Val} (he : EvD K te ⟨sl, ω⟩ v.dat) (hl : m.found.length < 16777216) (k : ∀ ω', MAt C ω' l (m.push v) → ExS K u ⟨sl, ω'⟩ Φ) :
    ExS K (tSeq (tDrop (tBM K "list" rAppend (tFld K (tVar i) "found") (tCons te tNil))) u) ⟨sl, ω⟩ Φ := by
  obtain ⟨a, b, c, h⟩ := h
  refine ex_appY (evl_fld (ml_var hv) h.self M.c M.found get_found) h.found (evy_d (Ψ := fun x e => x = .dat v.dat ∧ e = ⟨sl, ω⟩) he ⟨rfl, rfl⟩) fun x e p => ?_
  obtain ⟨rfl, rfl⟩ := p
  refine ⟨_, h.found, by simpa using hl, ?_⟩
  have := k _ ⟨a, b, c, h.setFound (v :: m.found)⟩
  rw [List.reverse_cons, List.map_append, List.map_append] at this
  exact this
theorem ex_stop {s : Str} (k : ∀ ω', MAt C ω' l (m.stop s) → ExS K u ⟨sl, ω'⟩ Φ) : ExS K (tSeq (sFld K (tVar i) (tC (.str s)) "ended") u) ⟨sl, ω⟩ Φ := by
  obtain ⟨a, b, c, h⟩ := h
  refine ex_fld (evy_d (Ψ := fun x e => x = .dat (.str s) ∧ e = ⟨sl, ω⟩) evd_str ⟨rfl, rfl⟩) fun x e p => ?_
  obtain ⟨rfl, rfl⟩ := p
  refine ⟨l, C, _, ml_var hv, h.self, M.c, M.ended, by simp [mFs], ?_⟩
  have := k _ ⟨a, b, c, h.setSelf m.left (some s)⟩
  rw [put_ended]
  exact this
theorem ex_setLeft {n : Int} (he : EvD K te ⟨sl, ω⟩ (.int n)) (k : ∀ ω', MAt C ω' l { m with left := n } → ExS K u ⟨sl, ω'⟩ Φ) : ExS K (tSeq (sFld K (tVar i) te "left") u) ⟨sl, ω⟩ Φ := by
  obtain ⟨a, b, c, h⟩ := h
  refine ex_fld (evy_d (Ψ := fun x e => x = .dat (.int n) ∧ e = ⟨sl, ω⟩) he ⟨rfl, rfl⟩) fun x e p => ?_
  obtain ⟨rfl, rfl⟩ := p
  refine ⟨l, C, _, ml_var hv, h.self, M.c, M.left, by simp [mFs], ?_⟩
  have := k _ ⟨a, b, c, h.setSelf n m.ended⟩
  rw [put_left]
  exact this
theorem ex_newTodo {ds : List Dat} (ts : List Task) (he : EvN K te ⟨sl, ω⟩ ds) (hd : ds = ts.reverse.map Task.dat) (k : ∀ ω', MAt C ω' l { m with todo := ts } → ExS K u ⟨sl, ω'⟩ Φ) : ExS K (tSeq (sFld K (tVar i) te "todo") u) ⟨sl, ω⟩ Φ := by
  obtain ⟨a, b, c, h⟩ := h
  subst hd
  refine ex_fld (evy_new (Ψ := fun x e => x = .loc ω.length ∧ e = (Sta.mk sl ω).push (.lst ((ts.reverse.map Task.dat).map Vl.dat))) he ⟨rfl, rfl⟩) fun x e p => ?_
  obtain ⟨rfl, rfl⟩ := p
  refine ⟨l, C, _, ml_var (ω := ω ++ [_]) hv, pre_some h.self, M.c, M.todo, by simp [mFs], ?_⟩
  have := k _ ⟨a, _, c, h.newTodo ts⟩
  rw [put_todo]
  exact this
theorem ex_newFound {ds : List Dat} (ts : List Val) (he : EvN K te ⟨sl, ω⟩ ds) (hd : ds = ts.reverse.map Val.dat) (k : ∀ ω', MAt C ω' l { m with found := ts } → ExS K u ⟨sl, ω'⟩ Φ) : ExS K (tSeq (sFld K (tVar i) te "found") u) ⟨sl, ω⟩ Φ := by
  obtain ⟨a, b, c, h⟩ := h
  subst hd
  refine ex_fld (evy_new (Ψ := fun x e => x = .loc ω.length ∧ e = (Sta.mk sl ω).push (.lst ((ts.reverse.map Val.dat).map Vl.dat))) he ⟨rfl, rfl⟩) fun x e p => ?_
  obtain ⟨rfl, rfl⟩ := p
  refine ⟨l, C, _, ml_var (ω := ω ++ [_]) hv, pre_some h.self, M.c, M.found, by simp [mFs], ?_⟩
  have := k _ ⟨a, b, _, h.newFound ts⟩
  rw [put_found]
  exact this
/-- x = self.found.pop() -/
theorem ex_popFound {j : Nat} {v : Val} {F : List Val} (hf : m.found = v :: F) (k : ∀ ω', MAt C ω' l { m with found := F } → ExS K u ⟨sl.set j (.dat v.dat), ω'⟩ Φ) :
    ExS K (tSeq (tAsg (tBM0 K "list" rPop (tFld K (tVar i) "found")) (gName j)) u) ⟨sl, ω⟩ Φ := by
  obtain ⟨a, b, c, h⟩ := h
  have hc := h.found
  rw [hf, List.reverse_cons, List.map_append, List.map_append] at hc
  refine ex_setY (evy_pop (Ψ := fun x e => x = .dat v.dat ∧ e = (Sta.mk sl ω).put c (.lst ((F.reverse.map Val.dat).map Vl.dat))) (evl_fld (ml_var hv) h.self M.c M.found get_found) hc ⟨rfl, rfl⟩) fun x e p => ?_
  obtain ⟨rfl, rfl⟩ := p
  exact k _ ⟨a, b, c, h.setFound F⟩
theorem ex_popTodo {j : Nat} {t : Task} {R : List Task} (hf : m.todo = t :: R) (k : ∀ ω', MAt C ω' l { m with todo := R } → ExS K u ⟨sl.set j (.dat t.dat), ω'⟩ Φ) :
    ExS K (tSeq (tAsg (tBM0 K "list" rPop (tFld K (tVar i) "todo")) (gName j)) u) ⟨sl, ω⟩ Φ := by
  obtain ⟨a, b, c, h⟩ := h
  have hc := h.todo
  rw [hf, List.reverse_cons, List.map_append, List.map_append] at hc
  refine ex_setY (evy_pop (Ψ := fun x e => x = .dat t.dat ∧ e = (Sta.mk sl ω).put b (.lst ((R.reverse.map Task.dat).map Vl.dat))) (evl_fld (ml_var hv) h.self M.c M.todo get_todo) hc ⟨rfl, rfl⟩) fun x e p => ?_
  obtain ⟨rfl, rfl⟩ := p
  exact k _ ⟨a, b, c, h.setTodo R⟩
theorem ev_left : EvM K (tFld K (tVar i) "left") ⟨sl, ω⟩ (.int m.left) true := by
  obtain ⟨a, b, c, h⟩ := h
  exact .std (evd_fld (ml_var hv) h.self M.c M.left get_left)
theorem ev_ended : EvM K (tFld K (tVar i) "ended") ⟨sl, ω⟩ (endD m.ended) true := by
  obtain ⟨a, b, c, h⟩ := h
  exact .std (evd_fld (ml_var hv) h.self M.c M.ended get_ended)
theorem ev_found : EvM K (tFld K (tVar i) "found") ⟨sl, ω⟩ (.lst (m.found.reverse.map Val.dat)) false := by
  obtain ⟨a, b, c, h⟩ := h
  exact .now (evh_cell (evl_fld (ml_var hv) h.self M.c M.found get_found) h.found)
theorem ev_todo : EvM K (tFld K (tVar i) "todo") ⟨sl, ω⟩ (.lst (m.todo.reverse.map Task.dat)) false := by
  obtain ⟨a, b, c, h⟩ := h
  exact .now (evh_cell (evl_fld (ml_var hv) h.self M.c M.todo get_todo) h.todo)
theorem ev_found0 {v : Val} (hf : m.found = [v]) : EvM K (tOp (rIx K) (tFld K (tVar i) "found") (tC (.int 0))) ⟨sl, ω⟩ v.dat true := by
  obtain ⟨a, b, c, h⟩ := h
  have hc := h.found
  rw [hf] at hc
  exact .std (evd_ixC (ds := [v.dat]) (evl_fld (ml_var hv) h.self M.c M.found get_found) hc evd_int.toH rfl)
theorem evn_foundSl {tl th : TO} {lo hi : Option Int} (h1 : EvO K tl ⟨sl, ω⟩ lo) (h2 : EvO K th ⟨sl, ω⟩ hi) : EvN K (tSl (rSlL K) (tFld K (tVar i) "found") tl th) ⟨sl, ω⟩ (cutD (m.found.reverse.map Val.dat) lo hi) := by
  obtain ⟨a, b, c, h⟩ := h
  exact evn_slC (evl_fld (ml_var hv) h.self M.c M.found get_found) h.found h1 h2
theorem evt_inTops {p : Int} (he : EvH K te ⟨sl, ω⟩ (.int p)) : EvT K (tB (tDIn te (tFld K (tVar i) "tops"))) ⟨sl, ω⟩ (lookE m.tk m.tv p).isSome := by
  obtain ⟨a, b, c, h⟩ := h
  have := evh_dinC (k := .inl p) (evl_fld (ml_var hv) h.self M.c M.tops get_tops) h.tops he
  rw [topX_get] at this
  refine evt_is (evt_B this) ?_
  cases lookE m.tk m.tv p <;> rfl
theorem ev_getTops {p : Int} {v : Val} (he : EvH K te ⟨sl, ω⟩ (.int p)) (hp : lookE m.tk m.tv p = some v) : EvM K (tDGet (tFld K (tVar i) "tops") te) ⟨sl, ω⟩ v.dat true := by
  obtain ⟨a, b, c, h⟩ := h
  exact .std (evd_dgetC (k := .inl p) (evl_fld (ml_var hv) h.self M.c M.tops get_tops) h.tops he (by rw [topX_get, hp]; rfl))
theorem ex_putTops {p : Int} {v : Val} (hd : EvD K td ⟨sl, ω⟩ v.dat) (he : EvH K te ⟨sl, ω⟩ (.int p)) (hl : m.tk.length = m.tv.length) (nd : m.tk.Nodup) (hs : m.tk.length < 16777216)
    (k : ∀ ω', MAt C ω' l { m with tk := pKs m.tk p, tv := pVs m.tk m.tv p v } → ExS K u ⟨sl, ω'⟩ Φ) : ExS K (tSeq (sDPut (tFld K (tVar i) "tops") te td) u) ⟨sl, ω⟩ Φ := by
  obtain ⟨a, b, c, h⟩ := h
  refine ex_dputC (k := .inl p) hd (evl_fld (ml_var hv) h.self M.c M.tops get_tops) h.tops he (by rw [topX_keys _ _ hl]; exact nodup_inl nd) (by simp [topX, hl]; omega) ?_
  rw [topX_put _ _ _ _ hl]
  exact k _ ⟨a, b, c, h.setTops _ _⟩
end
theorem cut_hi {xs ys : List Dat} : cutD (xs ++ ys) (some xs.length) none = ys := by
  unfold cutD
  have h1 : HT.sIx (xs ++ ys).length 0 (some (xs.length : Int)) = xs.length := by
    unfold HT.sIx
    simp only [List.length_append]
    split <;> omega
  have h2 : HT.sIx (xs ++ ys).length (xs ++ ys).length none = xs.length + ys.length := by simp [HT.sIx]
  rw [h1, h2, List.drop_left]
  apply List.take_of_length_le
  omega
theorem cut_lo {xs ys : List Dat} : cutD (xs ++ ys) none (some xs.length) = xs := by
  unfold cutD
  have h1 : HT.sIx (xs ++ ys).length 0 none = 0 := by simp [HT.sIx]
  have h2 : HT.sIx (xs ++ ys).length (xs ++ ys).length (some (xs.length : Int)) = xs.length := by
    unfold HT.sIx
    simp only [List.length_append]
    split <;> omega
  rw [h1, h2, List.drop_zero, Nat.sub_zero, List.take_left]
end
def Dat.isNon : Dat → Bool
  | .non => true
  | _ => false
theorem R.isNon {K : PySem.W.Frag} {G : Hp} {v : V} {d : Dat} (h : R K G v d) : decide (v = .non) = d.isNon := by
  cases h <;> rfl
theorem rd_isN {K : PySem.W.Frag} {d : Dat} : RD K (fun x y H Q => y = .non ∧ Q (.bl (decide (x = .non))) H) d .non (.bl d.isNon) := fun vx vy G H e rx ry Q q => by
  cases ry
  refine ⟨rfl, ?_⟩
  rw [rx.isNon]
  exact q _ G H (.refl e) (.bl _)
theorem rd_notN {K : PySem.W.Frag} {d : Dat} : RD K (fun x y H Q => y = .non ∧ Q (.bl (!decide (x = .non))) H) d .non (.bl (!d.isNon)) := fun vx vy G H e rx ry Q q => by
  cases ry
  refine ⟨rfl, ?_⟩
  rw [rx.isNon]
  exact q _ G H (.refl e) (.bl _)
theorem endD_non (e : Option Str) : (endD e).isNon = e.isNone := by cases e <;> rfl
theorem val_non (v : Val) : v.dat.isNon = false := by cases v <;> (rw [Val.dat]; rfl)
def Val.isNum : Val → Bool
  | .num _ => true
  | _ => false
theorem Val.isNum_num {v : Val} (h : v.isNum = true) : ∃ n, v = .num n := by
  cases v with
  | num n => exact ⟨n, rfl⟩
  | _ => cases h
theorem evt_head {K : PySem.W.Frag} {ε : Sta} {te : TE} {v : Val} {b : Bool} (h : EvM K te ε v.dat b) : EvT K (tTest (tOp (rEqU K) (tOp (rIx K) te (tC (.int 0))) (tC (.str "num")))) ε v.isNum := by
  cases v with
  | num n =>
    rw [show (Val.num n).dat = .tup [.str "num", .int n] by simp only [Val.dat]] at h
    exact evt_is (evt_testM (evm_op (evm_op h evm_int (.inl (rd_ixT rfl))) evm_str (.inl rd_eq_str))) (by show (_ : Bool) = _; first | exact (by decide : ((Str.ofString "num" == Str.ofString "num") = true)) | exact (by decide : ((Str.ofString "op" == Str.ofString "num") = false)) | exact (by decide : ((Str.ofString "fn" == Str.ofString "num") = false)))
  | op x =>
    rw [show (Val.op x).dat = .tup [.str "op", .str x] by simp only [Val.dat]] at h
    exact evt_is (evt_testM (evm_op (evm_op h evm_int (.inl (rd_ixT rfl))) evm_str (.inl rd_eq_str))) (by show (_ : Bool) = _; first | exact (by decide : ((Str.ofString "num" == Str.ofString "num") = true)) | exact (by decide : ((Str.ofString "op" == Str.ofString "num") = false)) | exact (by decide : ((Str.ofString "fn" == Str.ofString "num") = false)))
  | fn ps b ks vs =>
    rw [show (Val.fn ps b ks vs).dat = .tup [.str "fn", .tup (ps.map parD), b.dat, envD ks vs] by simp only [Val.dat, envD, valsD_map]] at h
    exact evt_is (evt_testM (evm_op (evm_op h evm_int (.inl (rd_ixT rfl))) evm_str (.inl rd_eq_str))) (by show (_ : Bool) = _; first | exact (by decide : ((Str.ofString "num" == Str.ofString "num") = true)) | exact (by decide : ((Str.ofString "op" == Str.ofString "num") = false)) | exact (by decide : ((Str.ofString "fn" == Str.ofString "num") = false)))
theorem evm_neg {K : PySem.W.Frag} {ε : Sta} {te : TE} {i : Int} {b : Bool} (h : EvM K te ε (.int i) b) : EvM K (tUn (rU fun i => .int (-i)) te) ε (.int (-i)) true :=
  EvH.toM (d := .int (-i)) (fun G0 H0 σ G H o Q q => h.toH G0 H0 σ G H o _ fun v G1 H1 o1 u1 r1 => by
    cases r1
    exact ⟨i, rfl, q _ G1 H1 o1 u1 (.int _)⟩)
theorem no_meth {mm : Str} {a b c : Nat} {n : Int} {e : Dat} (h1 : ¬ ((Str.ofString "tops" : Str) = mm)) (h2 : ¬ ((Str.ofString "left" : Str) = mm)) (h3 : ¬ ((Str.ofString "todo" : Str) = mm)) (h4 : ¬ ((Str.ofString "found" : Str) = mm)) (h5 : ¬ ((Str.ofString "ended" : Str) = mm)) :
    getX (mFs a b c n e) mm = none := by simp [mFs, getX, h1, h2, h3, h4, h5]
/-! ### what the methods promise -/
def After1 (C : Addr) (l : Nat) (m : MSt) : Vl → List Cell → Prop := fun x ω' => x = .dat .non ∧ MAt C ω' l m
inductive P_Machine___init__ (C : Addr) : PX
  | mk {ω : List Cell} {l : Nat} {n : Int} (h : ω[l]? = some (.ins C [])) : P_Machine___init__ C [.loc l, .dat (.int n)] ω (After1 C l ⟨[], [], n, [], [], none⟩)
inductive P_Machine_come (C : Addr) : PX
  | mk {ω : List Cell} {l : Nat} {m : MSt} {c : Core} {ks : List Int} {vs : List Val} (h : MAt C ω l m) (h1 : m.found.length < 16777216) (h2 : ∀ f xs, c = .call f xs → m.todo.length + xs.length + 2 < 16777216) (h3 : m.todo.length + 2 < 16777216) :
    P_Machine_come C [.loc l, .dat c.dat, .dat (envD ks vs)] ω (After1 C l (comeM m ks vs c))
inductive P_Machine_operation (C : Addr) : PX
  | mk {ω : List Cell} {l : Nat} {m : MSt} {x : Str} (h : MAt C ω l m) (h1 : m.found.length < 16777216) : P_Machine_operation C [.loc l, .dat (.str x)] ω (After1 C l (comeM m [] [] (.free x)))
inductive P_Machine_look (C : Addr) : PX
  | mk {ω : List Cell} {l : Nat} {m : MSt} {p : Int} {ks : List Int} {vs : List Val} (h : MAt C ω l m) (h1 : m.found.length < 16777216) : P_Machine_look C [.loc l, .dat (.int p), .dat (envD ks vs)] ω (After1 C l (comeM m ks vs (.seen p)))
inductive P_Machine_choose (C : Addr) : PX
  | mk {ω : List Cell} {l : Nat} {m : MSt} {b c : Core} {ks : List Int} {vs : List Val} {v : Val} {F : List Val} (h : MAt C ω l m) (hf : m.found = v :: F) (h3 : m.todo.length + 2 < 16777216) :
    P_Machine_choose C [.loc l, .dat b.dat, .dat c.dat, .dat (envD ks vs)] ω (After1 C l (chooseM { m with found := F } b c ks vs v))
inductive P_Machine_enter (C : Addr) : PX
  | mk {ω : List Cell} {l : Nat} {m : MSt} {ps : List (Int × Str)} {b : Core} {ks : List Int} {vs us : List Val} (h : MAt C ω l m) (hl : ps.length = us.length) (h3 : m.todo.length + 2 < 16777216) (h4 : ks.Nodup ∧ ks.length + ps.length < 16777216) :
    P_Machine_enter C [.loc l, .dat (Val.fn ps b ks vs).dat, .dat (.lst (us.map Val.dat))] ω (After1 C l (enterM m ps b ks vs us))
inductive P_Machine_call (C : Addr) : PX
  | mk {ω : List Cell} {l : Nat} {m : MSt} {n : Nat} {v : Val} {us F : List Val} (h : MAt C ω l m) (hf : m.found = us.reverse ++ v :: F) (hn : us.length = n) (h1 : m.found.length < 16777216) (h3 : m.todo.length + 2 < 16777216)
      (h4 : ∀ ps b ks vs, v = .fn ps b ks vs → ks.Nodup ∧ ks.length + ps.length < 16777216) : P_Machine_call C [.loc l, .dat (.int n)] ω (After1 C l (callM { m with found := F } us v))
theorem ex_methM {K : PySem.W.Frag} {C : Addr} {sl : List Sl} {ω : List Cell} {l i : Nat} {m m' : MSt} {tu : TA} {u : TS} {Φ : Out → Prop} {mm : Str} {P : PX} {E : XK} {ds : List Dat} (h : MAt C ω l m) (hv : sl[i]? = some (.loc l)) (hm : ∀ a b c n e, getX (mFs a b c n e) mm = none) (ha : EvA K tu ⟨sl, ω⟩ ds)
    (hP : P (.loc l :: ds.map Vl.dat) ω (After1 C l m')) (k : ∀ ω', MAt C ω' l m' → ExS K u ⟨sl, ω'⟩ Φ) : ExS K (tSeq (tDrop (tMeth C mm (spX K P) [] E (tVar i) tu)) u) ⟨sl, ω⟩ Φ := by
  obtain ⟨a, b, c, h⟩ := h
  refine ex_exprY (Ψ := fun x e => ∃ ω', e = ⟨sl, ω'⟩ ∧ MAt C ω' l m') (evy_meth (Ψa := fun xs e => xs = ds.map Vl.dat ∧ e = ⟨sl, ω⟩) (evl_var hv) h.self (hm _ _ _ _ _) (evys_d ha ⟨rfl, rfl⟩) fun xs e p => ?_) fun x e p => ?_
  · obtain ⟨rfl, rfl⟩ := p
    exact ⟨_, hP, fun x ω' q => ⟨ω', rfl, q.2⟩⟩
  · obtain ⟨ω', rfl, q⟩ := p
    exact k ω' q
inductive P_reckoned : List Dat → Res → Prop
  | mk {x : Str} {a b : Int} : P_reckoned [.str x, .int a, .int b] (.dat (.int (reck x a b)))
/-- how a core's run ends: with its value, or stopped -/
def ValAns : Ans → Dat
  | .val v => v.dat
  | _ => .non
inductive P_value_of (C : Addr) : PX
  | mk {ω : List Cell} {l : Nat} {m m' : MSt} {c : Core} (h : MAt C ω l m) (he : m.ended = none) {n : Nat} (hr : Runs n { m with todo := [.core c [] []], found := [] } m') (hd : m'.ended ≠ none ∨ m'.todo = [] ∧ ∃ v, m'.found = [v]) :
    P_value_of C [.loc l, .dat c.dat] ω fun x ω' => MAt C ω' l m' ∧ ((m'.ended ≠ none ∧ x = .dat .non) ∨ (m'.ended = none ∧ ∃ v, m'.found = [v] ∧ x = .dat v.dat))
def finOf : Ans → Option Str
  | .fin s => some s
  | _ => none
theorem pKs_pVs : ∀ {ks : List Int} {vs : List Val} {p : Int} {v : Val}, ks.length = vs.length → (pKs ks p).length = (pVs ks vs p v).length
  | [], [], p, v, _ => rfl
  | _ :: _, [], p, v, h => by simp at h
  | [], _ :: _, p, v, h => by simp at h
  | k :: ks, w :: vs, p, v, h => by
    show (if k = p then _ else _ : List Int).length = (if k = p then _ else _ : List Val).length
    by_cases e : k = p
    · rw [if_pos e, if_pos e]
      simpa using h
    · rw [if_neg e, if_neg e, List.length_cons, List.length_cons, pKs_pVs (by simpa using h)]
def told : Val → Dat
  | .num n => .tup [.str "num", .int n]
  | .op x => .tup [.str "op", .str x]
  | .fn ps _ _ _ => .tup [.str "fn", .int ps.length]
inductive P_answer : List Dat → Res → Prop
  | mk {v : Val} : P_answer [v.dat] (.dat (told v))
inductive Item where
  | dfn (p : Int) (x : Str) (c : Core)
  | shw (c : Core)
def Item.dat : Item → Dat
  | .dfn p x c => .tup [.str "def", .int p, .str x, c.dat]
  | .shw c => .tup [.str "show", c.dat]
def Item.core : Item → Core
  | .dfn _ _ c => c
  | .shw c => c
/-- what the items tell -/
inductive RunI : List Int → List Val → Nat → List Item → List Dat → Prop
  | nil {tk : List Int} {tv : List Val} {k : Nat} : RunI tk tv k [] []
  | dfn {tk : List Int} {tv : List Val} {k k' d : Nat} {p : Int} {x : Str} {c : Core} {is : List Item} {v : Val} {r : List Dat} (h : Ev tk tv k (.one [] [] c) (.val v) k' d) (hd : d < 16000000) (hs : tk.length < 16777216) (h2 : RunI (pKs tk p) (pVs tk tv p v) k' is r) :
    RunI tk tv k (.dfn p x c :: is) r
  | shw {tk : List Int} {tv : List Val} {k k' d : Nat} {c : Core} {is : List Item} {v : Val} {r : List Dat} (h : Ev tk tv k (.one [] [] c) (.val v) k' d) (hd : d < 16000000) (h2 : RunI tk tv k' is r) : RunI tk tv k (.shw c :: is) (told v :: r)
  | dfnF {tk : List Int} {tv : List Val} {k k' d : Nat} {p : Int} {x : Str} {c : Core} {is : List Item} {s : Str} (h : Ev tk tv k (.one [] [] c) (.fin s) k' d) (hd : d < 16000000) : RunI tk tv k (.dfn p x c :: is) [.tup [.str s]]
  | shwF {tk : List Int} {tv : List Val} {k k' d : Nat} {c : Core} {is : List Item} {s : Str} (h : Ev tk tv k (.one [] [] c) (.fin s) k' d) (hd : d < 16000000) : RunI tk tv k (.shw c :: is) [.tup [.str s]]
inductive P_run : List Dat → Res → Prop
  | mk {is : List Item} {k : Nat} {r : List Dat} (h : RunI [] [] k is r) (hl : is.length < 16000000) : P_run [.lst (is.map Item.dat), .int k] (.new r)
end Pu
set_option Elab.async false
set_option linter.all false
set_option maxRecDepth 100000
set_option maxHeartbeats 4000000
set_option autoImplicit false
/-! odds and ends for the laws' own defs -/
namespace Pu
open PySem PySem.Spec PyProof.Rows L2
theorem Sta.set_same {e : Sta} {i : Nat} {x : Sl} (h : e[i]? = some x) : e.set i x = e := by
  show Sta.mk _ _ = e
  obtain ⟨h1, h2⟩ := List.getElem?_eq_some_iff.mp (show e.sl[i]? = some x from h)
  subst h2
  rw [List.set_getElem_self h1]
section
variable {K : PySem.W.Frag} {ε : Sta} {te ta tb tx : TE} {tu : TA} {tt : TT} {x y z d d0 d1 : Dat} {ds es : List Dat} {s t u : TS} {Φ : Out → Prop}
/-- if t: x = e -/
theorem ex_ifset {b : Bool} {i : Nat} (h : EvT K tt ε b) (h1 : b = true → EvD K te ε d1) (hi : ε[i]? = some (.dat d0)) (k : ExS K u (ε.set i (.dat (if b = true then d1 else d0))) Φ) :
    ExS K (tSeq (tIfS tt (tAsg te (gName i)) tNext) u) ε Φ := by
  refine ex_ifs h (fun e => ?_) (fun e => ?_)
  · rw [if_pos e] at k
    exact ex_set (h1 e) k
  · rw [if_neg (by rw [e]; simp), Sta.set_same hi] at k
    exact ex_seqN k
theorem cut_take {n : Nat} : cutD ds none (some (n : Int)) = ds.take n := by
  unfold cutD
  have h1 : HT.sIx ds.length 0 none = 0 := by simp [HT.sIx]
  rw [h1, List.drop_zero, Nat.sub_zero]
  by_cases h : n ≤ ds.length
  · have : HT.sIx ds.length ds.length (some (n : Int)) = n := by
      unfold HT.sIx
      dsimp only
      split <;> omega
    rw [this]
  · have : HT.sIx ds.length ds.length (some (n : Int)) = ds.length := by
      unfold HT.sIx
      dsimp only
      split <;> omega
    rw [this, List.take_length, List.take_of_length_le (by omega)]
theorem evn_takeM {n : Nat} {m : Bool} (h : EvM K te ε (.lst ds) m) (e : m = true) : EvN K (tSl (rSlL K) te tNoPart (tPart (tC (.int n)))) ε (ds.take n) :=
  evn_is (evn_slM h e evo_none (evo_someM evm_int)) cut_take
theorem rc_max2 {i j : Int} : RC K (fun xs H Q => ∃ i j, xs = [.int i, .int j] ∧ Q (.int (if j > i then j else i)) H) [.int i, .int j] (.int (if j > i then j else i)) := fun vs G H e r Q q => by
  cases r with
  | cons a b =>
    cases a
    cases b with
    | cons b c =>
      cases b
      cases c
      exact ⟨i, j, rfl, q _ G H (.refl e) (.int _)⟩
theorem rc_min2 {i j : Int} : RC K (fun xs H Q => ∃ i j, xs = [.int i, .int j] ∧ Q (.int (if j < i then j else i)) H) [.int i, .int j] (.int (if j < i then j else i)) := fun vs G H e r Q q => by
  cases r with
  | cons a b =>
    cases a
    cases b with
    | cons b c =>
      cases b
      cases c
      exact ⟨i, j, rfl, q _ G H (.refl e) (.int _)⟩
theorem cut_mid {a b : Nat} : cutD ds (some (a : Int)) (some (b : Int)) = (ds.drop a).take (b - a) := by
  unfold cutD
  have h1 : HT.sIx ds.length 0 (some (a : Int)) = min a ds.length := by
    unfold HT.sIx
    dsimp only
    split <;> omega
  have h2 : HT.sIx ds.length ds.length (some (b : Int)) = min b ds.length := by
    unfold HT.sIx
    dsimp only
    split <;> omega
  rw [h1, h2]
  by_cases h : a ≤ ds.length
  · rw [Nat.min_eq_left h]
    by_cases h3 : b ≤ ds.length
    · rw [Nat.min_eq_left h3]
    · rw [Nat.min_eq_right (by omega), List.take_of_length_le (by rw [List.length_drop]; omega), List.take_of_length_le (by rw [List.length_drop]; omega)]
  · rw [Nat.min_eq_right (show ds.length ≤ a by omega), List.drop_length, List.take_nil, List.drop_of_length_le (show ds.length ≤ a by omega), List.take_nil]
theorem evn_midM {a b : Nat} {m : Bool} (h : EvM K te ε (.lst ds) m) (e : m = true) : EvN K (tSl (rSlL K) te (tPart (tC (.int a))) (tPart (tC (.int b)))) ε ((ds.drop a).take (b - a)) :=
  evn_is (evn_slM h e (evo_someM evm_int) (evo_someM evm_int)) cut_mid
theorem getD_at {α : Type} {f : α → Dat} {xs : List α} {k : Nat} {d : Dat} (h : (xs.map f)[k]? = some d) : ∃ x, xs[k]? = some x ∧ d = f x := by
  rw [List.getElem?_map] at h
  cases e : xs[k]? with
  | none => rw [e] at h; cases h
  | some x => rw [e] at h; exact ⟨x, rfl, by simpa using h.symm⟩
theorem evm_callD {P : List Dat → Res → Prop} {E : XK} {dvs : List V} {es : List Dat} (h : EvA K tu ε ds) (hd : ∀ G, RL K G dvs es) (hP : P (ds ++ es) (.dat z)) : EvM K (tCall (spF K P) dvs E tu) ε z true := .std (evd_call h hd hP)
/-- tuple(xs) -/
theorem rc_tuple : RC K (fun xs H Q => ∃ p ys, xs = [.ref p] ∧ ((SqL K H p ys ∧ ∀ l, H l = none → Q (.ref l) (upd H l (.tup ys))) ∨ (SqT K H p ys ∧ Q (.ref p) H))) [.lst ds] (.tup ds) := fun vs G H e r Q q => by
  cases r with
  | cons a b =>
    cases b
    cases a with
    | @lst p ys _ s r => exact ⟨p, ys, rfl, .inl ⟨e.seq s, fun l hl =>
        have u : Up G H (upd G l (.tup ys)) (upd H l (.tup ys)) := .lay e hl
        q _ _ _ u (.tup upd_same (r.up u.g))⟩⟩
theorem rc_tupleT : RC K (fun xs H Q => ∃ p ys, xs = [.ref p] ∧ ((SqL K H p ys ∧ ∀ l, H l = none → Q (.ref l) (upd H l (.tup ys))) ∨ (SqT K H p ys ∧ Q (.ref p) H))) [.tup ds] (.tup ds) := fun vs G H e r Q q => by
  cases r with
  | cons a b =>
    cases b
    cases id a with
    | @tup p ys _ s r => exact ⟨p, ys, rfl, .inr ⟨sameT e (.inl (.inl s)), q _ G H (.refl e) a⟩⟩
/-- d.get(k, x), d a cell -/
theorem evd_dget2C {ε : Sta} {td ty tx : TE} {l : Nat} {k : Key} {kvs : List (Key × Vl)} (h : EvL K td ε l) (hc : ε.om[l]? = some (.dic kvs)) (hy : EvH K ty ε (keyD k)) (hx : EvD K tx ε d0) (hd : (getX kvs k = none ∧ d = d0) ∨ getX kvs k = some (.dat d)) :
    EvD K (tDGet2 td ty tx) ε d := fun G0 H0 σ G H o Q q =>
  h G0 H0 σ G H o _ fun a ha => by
    obtain ⟨vs0, e0, _⟩ := o.cell ha hc
    refine ⟨a, rfl, .inl ⟨_, .inl e0⟩, hy G0 H0 σ G H o _ fun v G1 H1 o1 u1 r1 => hx G0 H0 σ G1 H1 o1 _ fun w G2 H2 o2 u2 r2 => ?_⟩
    obtain ⟨vs, e, r⟩ := o2.cell ha hc
    rw [r1.keyD]
    rcases hd with ⟨hd, rfl⟩ | hd
    · exact ⟨_, DGet.k e, by rw [(r.val k).2 hd]; exact q w G2 H2 o2 (u1.trans u2) r2⟩
    · obtain ⟨x, e2, r3⟩ := (r.val k).1 _ hd
      exact ⟨_, DGet.k e, by rw [e2]; exact q x G2 H2 o2 (u1.trans u2) r3⟩
mutual
theorem mono_plain : ∀ {n : Nat} {d : Dat}, d.plain n = true → d.plain (n + 1) = true
  | 0, .non, h => rfl
  | _ + 1, .non, h => rfl
  | 0, .bl _, h => rfl
  | _ + 1, .bl _, h => rfl
  | 0, .int _, h => rfl
  | _ + 1, .int _, h => rfl
  | 0, .str x, h => by simpa [Dat.plain] using h
  | _ + 1, .str x, h => by simpa [Dat.plain] using h
  | n + 1, .tup xs, h => by
    rw [Dat.plain] at h ⊢
    exact mono_plains h
  | n + 1, .lst xs, h => by
    rw [Dat.plain] at h ⊢
    exact mono_plains h
  | 0, .tup xs, h => by simp [Dat.plain] at h
  | 0, .lst xs, h => by simp [Dat.plain] at h
  | 0, .ins _ _ _, h => by simp [Dat.plain] at h
  | 0, .dic _ _, h => by simp [Dat.plain] at h
  | 0, .dit _ _, h => by simp [Dat.plain] at h
  | 0, .ty _, h => by simp [Dat.plain] at h
  | 0, .cls _, h => by simp [Dat.plain] at h
  | _ + 1, .ins _ _ _, h => by simp [Dat.plain] at h
  | _ + 1, .dic _ _, h => by simp [Dat.plain] at h
  | _ + 1, .dit _ _, h => by simp [Dat.plain] at h
  | _ + 1, .ty _, h => by simp [Dat.plain] at h
  | _ + 1, .cls _, h => by simp [Dat.plain] at h
theorem mono_plains : ∀ {n : Nat} {ds : List Dat}, Dat.plains n ds = true → Dat.plains (n + 1) ds = true
  | _, [], _ => by simp [Dat.plains]
  | n, d :: ds, h => by
    rw [Dat.plains, Bool.and_eq_true] at h ⊢
    exact ⟨mono_plain h.1, mono_plains h.2⟩
end
theorem strOk_app {x y : Str} (h : PyData.strOk x = true) (g : PyData.strOk y = true) : PyData.strOk (x ++ y) = true := by
  unfold PyData.strOk at *
  show (x.cps ++ y.cps).all _ = true
  rw [Array.all_append, h, g]
  rfl
/-- t[lo:hi] of a tuple -/
theorem evm_slT {tl th : TO} {lo hi : Option Int} {m : Bool} (h : EvM K te ε (.tup ds) m) (e : m = true) (h1 : EvO K tl ε lo) (h2 : EvO K th ε hi) : EvM K (tSl (rSlA K) te tl th) ε (.tup (cutD ds lo hi)) true := .std fun G0 H0 σ G H o Q q =>
  (h.toD e) G0 H0 σ G H o _ fun v G1 H1 o1 u1 r1 => h1 G0 H0 σ G1 H1 o1 _ fun G2 H2 o2 u2 => h2 G0 H0 σ G2 H2 o2 _ fun G3 H3 o3 u3 => by
    have r3 := r1.up (u2.trans u3).g
    cases id r3 with
    | @tup a xs _ s r =>
      refine ⟨a, xs, rfl, sameT o3.up.le (.inl (.inl s)), fun f => ?_, fun f p hp => ?_⟩
      · have : cutD ds lo hi = ds := by
          unfold cutD
          rw [← r.len, f.1, f.2, List.drop_zero, Nat.sub_zero, r.len, List.take_length]
        rw [this] at q
        exact q _ G3 H3 o3 ((u1.trans u2).trans u3) r3
      · have u4 : Up G3 H3 (upd G3 p (.tup (cutV xs lo hi))) (upd H3 p (.tup (cutV xs lo hi))) := .lay o3.up.le hp
        exact q _ _ _ (o3.step u4) (((u1.trans u2).trans u3).trans u4) (.tup upd_same ((r.up u4.g).cut lo hi))
theorem cut_takeI {n : Int} (h : 0 ≤ n) : cutD ds none (some n) = ds.take n.toNat := by
  have : n = (n.toNat : Int) := by omega
  rw [this, cut_take]
  rfl
/-- an iterator that walks the data ds, as long as all that is now stays as it is -/
def WalksH (K : PySem.W.Frag) (J : It) (B C : Hp) (ds : List Dat) : Prop := ∀ (i : Nat) (G H : Hp), Same B G → Same C H → Same G H →
  (∀ d, ds[i]? = some d → J.go i H ∧ ∀ x H', J.yld i H x H' → ∃ G', Up G H G' H' ∧ R K G' x d) ∧ (ds.length ≤ i → J.stop i H)
def EvWH (K : PySem.W.Frag) (wi : TI) (ε : Sta) (ds : List Dat) : Prop := ∀ (G0 : Gh) (H0 : Hp) (σ : L2.St) (G H : Hp), Ok K G0 H0 ε σ G H → ∀ Q : It → Hp → Prop, (∀ J G' H', Ok K G0 H0 ε σ G' H' → Up G H G' H' → WalksH K J G' H' ds → Q J H') → wi σ H Q
theorem evwh_own {i : Nat} (h : ε[i]? = some (.own ds)) : EvWH K (iList K (tVar i)) ε ds := fun G0 H0 σ G H o Q q => by
  obtain ⟨v, a, p, xs, e, hp, hg, h0, r⟩ := o.get i _ h
  subst e
  refine ⟨_, a, p, rfl, ⟨xs, .inl (.inl hp)⟩, q _ G H o (.refl o.up.le) fun i G' H' s1 s2 s3 => ?_⟩
  have sH : SqL K H' p xs := .inl (.inl (s2 _ _ hp))
  refine ⟨fun d hd => ?_, fun hl => ⟨xs, sH, by rw [r.len]; exact hl⟩⟩
  obtain ⟨v, hv, rv⟩ := r.getD hd
  refine ⟨⟨xs, v, sH, hv⟩, fun x H2 y => ?_⟩
  obtain ⟨rfl, f1⟩ := y
  have q1 := f1 xs sH
  rw [hv] at q1
  cases q1
  exact ⟨G', .refl s3, rv.up s1⟩
theorem evn_lcH {α : Type} {wi : TI} {g : TG} {vs : List Nat} (xs : List α) (inj : α → Dat) (p : α → Bool) (f : α → Dat) (h : EvWH K wi ε (xs.map inj)) (hw : Wiped g vs)
    (hs : ∀ x, x ∈ xs → ∃ ε', EvG K g (wipeE ε vs) (inj x) ε' ∧ EvT K tt ε' (p x) ∧ (p x = true → EvD K te ε' (f x))) (hl : xs.length < 16777216) :
    EvN K (tLc wi g tt te vs) ε ((xs.filter p).map f) := fun G0 H0 σ G H o Q q => h G0 H0 σ G H o _ fun J G1 H1 o1 u1 W D hD => by
  have hg1 : G1 D = none := o1.up.le.free hD
  have hsame : Same H1 H1 := .refl _
  -- the list at D, i turns on
  let A : Nat → Hp → Prop := fun i H' => ∃ G' ys, Ok K G0 H0 ε σ G' H' ∧ Up G1 H1 G' H' ∧ H' D = some (.lst ys) ∧ G' D = none ∧ RL K G' ys (((xs.take i).filter p).map f)
  refine ⟨fun i m H' => m = xs.length - i ∧ i ≤ xs.length ∧ A i H', ⟨xs.length, by simp, Nat.zero_le _, G1, [], ?_, .own o1.up.le hD, upd_same, hg1, .nil⟩, ?_⟩
  · exact o1.step (.own o1.up.le hD)
  rintro i m H' ⟨rfl, hi, G', ys, o', u', hp', hg', r'⟩
  obtain ⟨W1, W2⟩ := W i G' H' u'.g (hsame.trans u'.h) o'.up.le
  by_cases hlt : i < xs.length
  · have hx : xs[i]? = some xs[i] := List.getElem?_eq_getElem hlt
    obtain ⟨go, yl⟩ := W1 (inj xs[i]) (by rw [List.getElem?_map, hx]; rfl)
    obtain ⟨ε', hg, ht, he⟩ := hs xs[i] (List.getElem_mem hlt)
    refine .inr ⟨go, fun H2 => A (i + 1) H2, fun H2 a => ⟨xs.length - (i + 1), by omega, rfl, hlt, a⟩, fun x H3 y => ?_⟩
    obtain ⟨G3, u3, r3⟩ := yl x H3 y
    have o3 := o'.step u3
    have nD3 : G3 D = none := u3.new D hg' (by rw [hp']; simp)
    refine hw σ x H3 _ (hg G0 H0 _ G3 H3 x (o3.wipe vs) r3 _ fun σ4 o4 => ?_)
    refine ht G0 H0 σ4 G3 H3 o4 _ fun G5 H5 o5 u5 => ?_
    have hD5 : H5 D = some (.lst ys) := u5.h _ _ (u3.h _ _ hp')
    have nD5 : G5 D = none := u5.new D nD3 (by rw [u3.h _ _ hp']; simp)
    have tk : xs.take (i + 1) = xs.take i ++ [xs[i]] := by rw [List.take_add_one, hx]; rfl
    cases hb : p xs[i] with
    | false =>
      rw [if_neg Bool.false_ne_true]
      refine ⟨G5, ys, o3.step u5, (u'.trans u3).trans u5, hD5, nD5, ?_⟩
      rw [tk, List.filter_append, List.filter_cons_of_neg (by simp [hb]), List.filter_nil, List.append_nil]
      exact r'.up (u3.trans u5).g
    | true =>
      rw [if_pos rfl]
      refine he hb G0 H0 σ4 G5 H5 o5 _ fun v G6 H6 o6 u6 r6 => ?_
      have hD6 : H6 D = some (.lst ys) := u6.h _ _ hD5
      have nD6 : G6 D = none := u6.new D nD5 (by rw [hD5]; simp)
      refine ⟨ys, hD6, size_lt ?_, G6, ys ++ [v], ?_, ?_, upd_same, nD6, ?_⟩
      · rw [r'.len, List.length_map]
        have := List.length_filter_le p (xs.take i)
        rw [List.length_take] at this
        omega
      · have o7 := (o3.step u5).step u6
        exact o7.other nD6 (o1.up.h.free hD) (o1.freshA hD) fun k e hk mk => o1.fresh hD hk mk
      · exact ((u'.trans u3).trans (u5.trans u6)).write nD6 hD
      · rw [tk, List.filter_append, List.map_append, List.filter_cons_of_pos hb, List.filter_nil]
        exact ((r'.up (u3.trans (u5.trans u6)).g)).app (.one r6)
  · have e : i = xs.length := by omega
    subst e
    rw [List.take_length] at r'
    exact .inl ⟨W2 (by rw [List.length_map]; exact Nat.le_refl _), q D ys G' H' o' (u1.trans u') (u1.h.free hD) hp' hg' r'⟩
theorem evn_lc1H {α : Type} {wi : TI} {j : Nat} (xs : List α) (inj : α → Dat) (f : α → Dat) (h : EvWH K wi ε (xs.map inj)) (hs : ∀ x, x ∈ xs → EvD K te (ε.set j (.dat (inj x))) (f x)) (hl : xs.length < 16777216) :
    EvN K (tLc wi (gName j) tYes te [j]) ε (xs.map f) := by
  have := evn_lcH (te := te) (tt := tYes) xs inj (fun _ => true) f h wiped_name (fun x hx => ⟨_, eg_name, evt_yes, fun _ => by
    show EvD K te ((ε.set j .no).set j (.dat (inj x))) (f x)
    rw [Sta.set_set]
    exact hs x hx⟩) hl
  rwa [List.filter_eq_self.mpr (fun _ _ => rfl)] at this
theorem take_map {α : Type} {f : α → Dat} {xs : List α} {n : Nat} : (xs.map f).take n = (xs.take n).map f := by rw [List.map_take]
end
end Pu
set_option Elab.async false
set_option linter.all false
set_option maxRecDepth 100000
set_option maxHeartbeats 4000000
set_option autoImplicit false
/-! every run of the machine comes to an end; more fuel -/
namespace Pu
open PySem PySem.Spec PyProof.Rows L2
mutual
def Core.sz : Core → Nat
  | .num _ => 1
  | .free _ => 1
  | .seen _ => 1
  | .fn ps b => b.sz + ps.length + 1
  | .call f xs => f.sz + szs xs + xs.length + 2
  | .pick a b c => a.sz + b.sz + c.sz + 2
  | .now a => a.sz + 1
def szs : List Core → Nat
  | [] => 0
  | x :: xs => x.sz + szs xs + 1
end
/-- all fns within have small bodies -/
inductive OkV (B : Nat) : Val → Prop
  | num {n : Int} : OkV B (.num n)
  | op {x : Str} : OkV B (.op x)
  | fn {ps : List (Int × Str)} {b : Core} {ks : List Int} {vs : List Val} (nd : ks.Nodup) (hb : ks.length + ps.length + b.sz + 1 ≤ B) (hv : ∀ v ∈ vs, OkV B v) : OkV B (.fn ps b ks vs)
theorem OkV.fnI {B : Nat} {ps : List (Int × Str)} {b : Core} {ks : List Int} {vs : List Val} (h : OkV B (.fn ps b ks vs)) : ks.Nodup ∧ ks.length + ps.length + b.sz + 1 ≤ B ∧ ∀ v ∈ vs, OkV B v := by
  cases h with
  | fn nd hb hv => exact ⟨nd, hb, hv⟩
def OkVs (B : Nat) (vs : List Val) : Prop := ∀ v ∈ vs, OkV B v
theorem lookE_mem : ∀ {ks : List Int} {vs : List Val} {p : Int} {v : Val}, lookE ks vs p = some v → v ∈ vs
  | [], vs, p, v, h => by simp [lookE] at h
  | _ :: _, [], p, v, h => by simp [lookE] at h
  | k :: ks, w :: vs, p, v, h => by
    unfold lookE at h
    split at h
    · cases h; exact List.mem_cons_self
    · exact List.mem_cons_of_mem _ (lookE_mem h)
theorem pVs_mem : ∀ {ks : List Int} {vs : List Val} {p : Int} {v w : Val}, w ∈ pVs ks vs p v → w = v ∨ w ∈ vs
  | [], vs, p, v, w, h => .inl (by simpa [pVs] using h)
  | _ :: _, [], p, v, w, h => .inl (by simpa [pVs] using h)
  | k :: ks, u :: vs, p, v, w, h => by
    unfold pVs at h
    split at h
    · rcases List.mem_cons.mp h with h | h
      · exact .inl h
      · exact .inr (List.mem_cons_of_mem _ h)
    · rcases List.mem_cons.mp h with h | h
      · exact .inr (h ▸ List.mem_cons_self)
      · rcases pVs_mem h with h | h
        · exact .inl h
        · exact .inr (List.mem_cons_of_mem _ h)
theorem bVs_mem : ∀ {ps : List (Int × Str)} {us : List Val} {ks : List Int} {vs : List Val} {w : Val}, w ∈ bVs ps us ks vs → w ∈ us ∨ w ∈ vs
  | [], us, ks, vs, w, h => by
    unfold bVs at h
    exact .inr h
  | _ :: _, [], ks, vs, w, h => by
    unfold bVs at h
    exact .inr h
  | p :: ps, u :: us, ks, vs, w, h => by
    unfold bVs at h
    rcases bVs_mem h with h | h
    · exact .inl (List.mem_cons_of_mem _ h)
    · rcases pVs_mem h with h | h
      · exact .inl (h ▸ List.mem_cons_self)
      · exact .inr h
def AnsOk (B : Nat) : Ans → Prop
  | .val v => OkV B v
  | .vals us => OkVs B us
  | .fin s => s = "stuck" ∨ s = "on"
section
variable {B : Nat} {tk : List Int} {tv : List Val}
def OneT (B : Nat) (tk : List Int) (tv : List Val) (k : Nat) (c : Core) : Prop := ∀ (ks : List Int) (vs : List Val), ks.Nodup → ks.length + c.sz ≤ B → OkVs B vs → ∃ r k' d, Ev tk tv k (.one ks vs c) r k' d ∧ k' ≤ k ∧ d ≤ B * (k - k') + c.sz ∧ AnsOk B r ∧ ∀ us, r ≠ .vals us
def ManyT (B : Nat) (tk : List Int) (tv : List Val) (k : Nat) (xs : List Core) : Prop := ∀ (ks : List Int) (vs : List Val), ks.Nodup → ks.length + szs xs ≤ B → OkVs B vs → ∃ r k' d, Ev tk tv k (.many ks vs xs) r k' d ∧ k' ≤ k ∧ d ≤ B * (k - k') + szs xs ∧ AnsOk B r ∧ ∀ v, r ≠ .val v
def AppT (B : Nat) (tk : List Int) (tv : List Val) (k : Nat) : Prop := ∀ (v : Val) (us : List Val), OkV B v → OkVs B us → ∃ r k' d, Ev tk tv k (.app v us) r k' d ∧ k' ≤ k ∧ d ≤ B * (k - k') ∧ AnsOk B r ∧ ∀ us, r ≠ .vals us
theorem part {k k1 k2 : Nat} (h1 : k1 ≤ k) (h2 : k2 ≤ k1) : B * (k - k1) + B * (k1 - k2) = B * (k - k2) := by
  rw [← Nat.mul_add]
  congr 1
  omega
theorem core_total (hB : B < 16777216) (ht : OkVs B tv) (k : Nat) (ih : ∀ j, j < k → (∀ c, OneT B tk tv j c) ∧ ∀ xs, ManyT B tk tv j xs) (app : ∀ j, j ≤ k → AppT B tk tv j) :
    ∀ n, (∀ c : Core, c.sz ≤ n → OneT B tk tv k c) ∧ ∀ xs : List Core, szs xs ≤ n → ManyT B tk tv k xs := by
  intro n
  induction n with
  | zero =>
    refine ⟨fun c h => by cases c <;> simp [Core.sz] at h, fun xs h => ?_⟩
    cases xs with
    | nil => exact fun ks vs _ _ _ => ⟨_, _, _, .mnil, Nat.le_refl _, Nat.zero_le _, fun v hv => (by cases hv), fun v h => by cases h⟩
    | cons x xs => simp [szs] at h
  | succ n hn =>
    obtain ⟨h1, h2⟩ := hn
    have one : ∀ (j : Nat) (c : Core), j ≤ k → c.sz ≤ n → OneT B tk tv j c := fun j c hj hc => by
      by_cases e : j = k
      · subst e; exact h1 c hc
      · exact (ih j (by omega)).1 c
    have many : ∀ (j : Nat) (xs : List Core), j ≤ k → szs xs ≤ n → ManyT B tk tv j xs := fun j xs hj hc => by
      by_cases e : j = k
      · subst e; exact h2 xs hc
      · exact (ih j (by omega)).2 xs
    refine ⟨fun c hc ks vs nd hl hv => ?_, fun xs hc ks vs nd hl hv => ?_⟩
    · cases c with
      | num m => exact ⟨_, _, _, .num, Nat.le_refl _, Nat.zero_le _, .num, fun us h => by cases h⟩
      | free x =>
        cases hx : isOp x with
        | true => exact ⟨_, _, _, .free hx, Nat.le_refl _, Nat.zero_le _, .op, fun us h => by cases h⟩
        | false => exact ⟨_, _, _, .freeS hx, Nat.le_refl _, Nat.zero_le _, .inl rfl, fun us h => by cases h⟩
      | seen p =>
        cases e : lookE ks vs p with
        | some v => exact ⟨_, _, _, .seenK e, Nat.le_refl _, Nat.zero_le _, hv v (lookE_mem e), fun us h => by cases h⟩
        | none =>
          cases e2 : lookE tk tv p with
          | some v => exact ⟨_, _, _, .seenT e e2, Nat.le_refl _, Nat.zero_le _, ht v (lookE_mem e2), fun us h => by cases h⟩
          | none => exact ⟨_, _, _, .seenS e e2, Nat.le_refl _, Nat.zero_le _, .inl rfl, fun us h => by cases h⟩
      | fn ps b =>
        rw [Core.sz] at hl
        exact ⟨_, _, _, .fn, Nat.le_refl _, Nat.zero_le _, .fn nd (by omega) hv, fun us h => by cases h⟩
      | now a =>
        rw [Core.sz] at hl hc
        obtain ⟨r, k', d, he, hk, hd, ha, hr⟩ := one k a (Nat.le_refl _) (by omega) ks vs nd (by omega) hv
        exact ⟨r, k', _, .now he, hk, by rw [Core.sz]; omega, ha, hr⟩
      | pick a b c =>
        rw [Core.sz] at hl hc
        obtain ⟨r, k1, d, he, hk, hd, ha, hr⟩ := one k a (Nat.le_refl _) (by omega) ks vs nd (by omega) hv
        cases r with
        | vals us => exact absurd rfl (hr us)
        | fin s => exact ⟨_, _, _, .pickF he, hk, by rw [Core.sz]; omega, ha, fun us h => by cases h⟩
        | val v =>
          cases v with
          | num m =>
            have hs : (if m = 0 then c else b).sz ≤ b.sz + c.sz := by split <;> omega
            obtain ⟨r2, k2, d2, he2, hk2, hd2, ha2, hr2⟩ := one k1 (if m = 0 then c else b) hk (by omega) ks vs nd (by omega) hv
            have := part (B := B) hk hk2
            exact ⟨_, _, _, .pick he he2, by omega, by rw [Core.sz]; omega, ha2, hr2⟩
          | op x => exact ⟨_, _, _, .pickS he (by simp), hk, by rw [Core.sz]; omega, .inl rfl, fun us h => by cases h⟩
          | fn ps bb kks vvs => exact ⟨_, _, _, .pickS he (by simp), hk, by rw [Core.sz]; omega, .inl rfl, fun us h => by cases h⟩
      | call f xs =>
        rw [Core.sz] at hl hc
        obtain ⟨r, k1, d, he, hk, hd, ha, hr⟩ := one k f (Nat.le_refl _) (by omega) ks vs nd (by omega) hv
        cases r with
        | vals us => exact absurd rfl (hr us)
        | fin s => exact ⟨_, _, _, .callF he, hk, by rw [Core.sz]; omega, ha, fun us h => by cases h⟩
        | val v =>
          obtain ⟨r2, k2, d2, he2, hk2, hd2, ha2, hr2⟩ := many k1 xs hk (by omega) ks vs nd (by omega) hv
          have p1 := part (B := B) hk hk2
          cases r2 with
          | val v => exact absurd rfl (hr2 v)
          | fin s => exact ⟨_, _, _, .callX he he2, by omega, by rw [Core.sz]; omega, ha2, fun us h => by cases h⟩
          | vals us =>
            obtain ⟨r3, k3, d3, he3, hk3, hd3, ha3, hr3⟩ := app k2 (by omega) v us ha ha2
            have p2 := part (B := B) (show k2 ≤ k by omega) hk3
            exact ⟨_, _, _, .call he he2 he3, by omega, by rw [Core.sz]; omega, ha3, hr3⟩
    · cases xs with
      | nil => exact ⟨_, _, _, .mnil, Nat.le_refl _, Nat.zero_le _, fun v hv => (by cases hv), fun v h => by cases h⟩
      | cons x xs =>
        rw [szs] at hl hc
        obtain ⟨r, k1, d, he, hk, hd, ha, hr⟩ := one k x (Nat.le_refl _) (by omega) ks vs nd (by omega) hv
        cases r with
        | vals us => exact absurd rfl (hr us)
        | fin s => exact ⟨_, _, _, .mconsF he, hk, by rw [szs]; omega, ha, fun v h => by cases h⟩
        | val v =>
          obtain ⟨r2, k2, d2, he2, hk2, hd2, ha2, hr2⟩ := many k1 xs hk (by omega) ks vs nd (by omega) hv
          have p1 := part (B := B) hk hk2
          cases r2 with
          | val v => exact absurd rfl (hr2 v)
          | fin s => exact ⟨_, _, _, .mconsX he he2, by omega, by rw [szs]; omega, ha2, fun v h => by cases h⟩
          | vals us => exact ⟨_, _, _, .mcons he he2, by omega, by rw [szs]; omega, fun w hw => by
              rcases List.mem_cons.mp hw with rfl | hw
              · exact ha
              · exact ha2 w hw, fun v h => by cases h⟩
theorem app_total (hB : B < 16777216) (k : Nat) (ih : ∀ j, j < k → ∀ c, OneT B tk tv j c) : AppT B tk tv k := fun v us hv hu => by
  cases v with
  | num n => exact ⟨_, _, _, .appN, Nat.le_refl _, Nat.zero_le _, .inl rfl, fun us h => by cases h⟩
  | op x =>
    by_cases h : ∃ a b, us = [.num a, .num b]
    · obtain ⟨a, b, rfl⟩ := h
      exact ⟨_, _, _, .appR, Nat.le_refl _, Nat.zero_le _, .num, fun us h => by cases h⟩
    · exact ⟨_, _, _, .appQ fun a b e => h ⟨a, b, e⟩, Nat.le_refl _, Nat.zero_le _, .inl rfl, fun us h => by cases h⟩
  | fn ps b ks vs =>
    obtain ⟨nd, hb, hvs⟩ := hv.fnI
    by_cases hl : ps.length = us.length
    · cases k with
      | zero => exact ⟨_, _, _, .appO hl ⟨nd, by omega⟩ rfl, Nat.le_refl _, Nat.zero_le _, .inr rfl, fun us h => by cases h⟩
      | succ k =>
        have bl := bKs_len ps us ks
        obtain ⟨r, k', d, he, hk, hd, ha, hr⟩ := ih k (by omega) b (bKs ps us ks) (bVs ps us ks vs) (bKs_nodup nd) (by omega) (fun w hw => by
          rcases bVs_mem hw with h | h
          · exact hu w h
          · exact hvs w h)
        refine ⟨r, k', _, .appE hl ⟨nd, by omega⟩ he, by omega, ?_, ha, hr⟩
        have : B * (k + 1 - k') = B * (k - k') + B := by
          rw [show k + 1 - k' = k - k' + 1 by omega, Nat.mul_add, Nat.mul_one]
        omega
    · exact ⟨_, _, _, .appS hl ⟨nd, by omega⟩, Nat.le_refl _, Nat.zero_le _, .inl rfl, fun us h => by cases h⟩
/-- every job comes to an answer -/
theorem total (hB : B < 16777216) (ht : OkVs B tv) : ∀ k, ((∀ c, OneT B tk tv k c) ∧ ∀ xs, ManyT B tk tv k xs) ∧ AppT B tk tv k := by
  intro k
  induction k using Nat.strongRecOn with
  | ind k ih =>
    have app : ∀ j, j ≤ k → AppT B tk tv j := fun j hj => app_total hB j fun i hi => (ih i (by omega)).1.1
    have all := core_total (B := B) (tk := tk) (tv := tv) hB ht k (fun j hj => (ih j hj).1) app
    exact ⟨⟨fun c => (all c.sz).1 c (Nat.le_refl _), fun xs => (all (szs xs)).2 xs (Nat.le_refl _)⟩, app k (Nat.le_refl _)⟩
end
/-- more fuel changes nothing, where it did not lack -/
theorem more_fuel {tk : List Int} {tv : List Val} {k k' d : Nat} {j : Job} {r : Ans} (h : Ev tk tv k j r k' d) (e : Nat) : r ≠ .fin "on" → Ev tk tv (k + e) j r (k' + e) d := by
  have so : (Ans.fin "stuck") ≠ .fin "on" := fun z => by
    have : (Str.ofString "stuck" : Str) = "on" := by injection z
    exact absurd this (by decide)
  induction h with
  | num => intro _; exact .num
  | free h => intro _; exact .free h
  | freeS h => intro _; exact .freeS h
  | seenK h => intro _; exact .seenK h
  | seenT h h2 => intro _; exact .seenT h h2
  | seenS h h2 => intro _; exact .seenS h h2
  | fn => intro _; exact .fn
  | now _ ih => intro hr; exact .now (ih hr)
  | pickF _ ih => intro hr; exact .pickF (ih hr)
  | pick _ _ ih ih2 => intro hr; exact .pick (ih (fun z => by cases z)) (ih2 hr)
  | pickS _ hv ih => intro hr; exact .pickS (ih (fun z => by cases z)) hv
  | callF _ ih => intro hr; exact .callF (ih hr)
  | callX _ _ ih ih2 => intro hr; exact .callX (ih (fun z => by cases z)) (ih2 hr)
  | call _ _ _ ih ih2 ih3 => intro hr; exact .call (ih (fun z => by cases z)) (ih2 (fun z => by cases z)) (ih3 hr)
  | mnil => intro _; exact .mnil
  | mconsF _ ih => intro hr; exact .mconsF (ih hr)
  | mconsX _ _ ih ih2 => intro hr; exact .mconsX (ih (fun z => by cases z)) (ih2 hr)
  | mcons _ _ ih ih2 => intro hr; exact .mcons (ih (fun z => by cases z)) (ih2 (fun z => by cases z))
  | appO _ _ _ => intro hr; exact absurd rfl hr
  | @appE k k' d ps b ks vs us r hl hk _ ih =>
    intro hr
    have := Ev.appE hl hk (ih hr)
    rwa [show k + e + 1 = k + 1 + e by omega] at this
  | appS hl hk => intro _; exact .appS hl hk
  | appR => intro _; exact .appR
  | appQ h => intro _; exact .appQ h
  | appN => intro _; exact .appN
end Pu
set_option Elab.async false
set_option linter.all false
set_option maxRecDepth 100000
set_option maxHeartbeats 4000000
set_option autoImplicit false
/-! a body with its P's bound runs as the body with the things put in -/
namespace Pu
open PySem PySem.Spec PyProof.Rows L2
mutual
def Core.dep : Core → Nat
  | .num _ => 0
  | .free _ => 0
  | .seen _ => 0
  | .fn _ b => b.dep + 1
  | .call f xs => max f.dep (deps xs) + 1
  | .pick a b c => max a.dep (max b.dep c.dep) + 1
  | .now a => a.dep + 1
def deps : List Core → Nat
  | [] => 0
  | x :: xs => max x.dep (deps xs)
end
def lookR : List (Int × Core) → Int → Option Core
  | [], _ => none
  | (p, c) :: r, q => if p = q then some c else lookR r q
mutual
def Core.put (ρ : List (Int × Core)) : Core → Core
  | .num n => .num n
  | .free x => .free x
  | .seen p => (lookR ρ p).getD (.seen p)
  | .fn ps b => .fn ps (b.put ρ)
  | .call f xs => .call (f.put ρ) (putAll ρ xs)
  | .pick a b c => .pick (a.put ρ) (b.put ρ) (c.put ρ)
  | .now a => .now (a.put ρ)
def putAll (ρ : List (Int × Core)) : List Core → List Core
  | [] => []
  | c :: cs => c.put ρ :: putAll ρ cs
end
mutual
/-- no fn within tells a place of ρ -/
def Core.fresh (ρ : List (Int × Core)) : Core → Prop
  | .num _ => True
  | .free _ => True
  | .seen _ => True
  | .fn ps b => (∀ p ∈ ps, lookR ρ p.1 = none) ∧ b.fresh ρ
  | .call f xs => f.fresh ρ ∧ freshAll ρ xs
  | .pick a b c => a.fresh ρ ∧ b.fresh ρ ∧ c.fresh ρ
  | .now a => a.fresh ρ
def freshAll (ρ : List (Int × Core)) : List Core → Prop
  | [] => True
  | c :: cs => c.fresh ρ ∧ freshAll ρ cs
end
theorem putAll_len (ρ : List (Int × Core)) : ∀ xs, (putAll ρ xs).length = xs.length
  | [] => rfl
  | x :: xs => by simp [putAll, putAll_len ρ xs]
/-- a thing to hand in, and its value -/
inductive ThingV : Core → Val → Prop
  | num {n : Int} : ThingV (.num n) (.num n)
  | op {x : Str} (h : isOp x = true) : ThingV (.free x) (.op x)
  | thunk {n : Int} {ks : List Int} {vs : List Val} : ThingV (.fn [] (.num n)) (.fn [] (.num n) ks vs)
inductive Sim (ρ : List (Int × Core)) : Val → Val → Prop
  | num {n : Int} : Sim ρ (.num n) (.num n)
  | op {x : Str} : Sim ρ (.op x) (.op x)
  | thunk {n : Int} {ks ks' : List Int} {vs vs' : List Val} (nd : ks'.Nodup ∧ ks'.length < 16777216) : Sim ρ (.fn [] (.num n) ks vs) (.fn [] (.num n) ks' vs')
  | fn {ps : List (Int × Str)} {b : Core} {ks ks' : List Int} {vs vs' : List Val} (l : ks.length = vs.length) (l' : ks'.length = vs'.length) (hd : ∀ p c, lookR ρ p = some c → ∃ v, lookE ks vs p = some v ∧ ThingV c v)
      (hn : ∀ p, lookR ρ p = none → lookE ks vs p = none → lookE ks' vs' p = none) (g : Int → Val) (hg : ∀ p v, lookR ρ p = none → lookE ks vs p = some v → lookE ks' vs' p = some (g p)) (hs : ∀ p v, lookR ρ p = none → lookE ks vs p = some v → Sim ρ v (g p))
      (fp : ∀ p ∈ ps, lookR ρ p.1 = none) (fb : b.fresh ρ) (nd : ks'.Nodup ∧ ks'.length + ps.length + b.sz + 1 < 16777216) : Sim ρ (.fn ps b ks vs) (.fn ps (b.put ρ) ks' vs')
structure EnvR (ρ : List (Int × Core)) (ks : List Int) (vs : List Val) (ks' : List Int) (vs' : List Val) : Prop where
  l : ks.length = vs.length
  l' : ks'.length = vs'.length
  hd : ∀ p c, lookR ρ p = some c → ∃ v, lookE ks vs p = some v ∧ ThingV c v
  hn : ∀ p, lookR ρ p = none → lookE ks vs p = none → lookE ks' vs' p = none
  hs : ∀ p v, lookR ρ p = none → lookE ks vs p = some v → ∃ v', lookE ks' vs' p = some v' ∧ Sim ρ v v'
  nd : ks'.Nodup
theorem look_put : ∀ {ks : List Int} {vs : List Val} {p q : Int} {v : Val}, ks.length = vs.length → lookE (pKs ks p) (pVs ks vs p v) q = if p = q then some v else lookE ks vs q
  | [], [], p, q, v, _ => by simp [pKs, pVs, lookE]
  | _ :: _, [], p, q, v, h => by simp at h
  | [], _ :: _, p, q, v, h => by simp at h
  | k :: ks, w :: vs, p, q, v, h => by
    unfold pKs pVs
    by_cases e : k = p
    · subst e
      rw [if_pos rfl, if_pos rfl]
      unfold lookE
      by_cases e2 : k = q
      · rw [if_pos e2, if_pos e2]
      · rw [if_neg e2, if_neg e2]
        simp [lookE, e2]
    · rw [if_neg e, if_neg e]
      unfold lookE
      by_cases e2 : k = q
      · subst e2
        rw [if_pos rfl, if_neg (fun z => e z.symm)]
        simp [lookE]
      · rw [if_neg e2, look_put (by simpa using h)]
        by_cases e3 : p = q
        · rw [if_pos e3, if_pos e3]
        · rw [if_neg e3, if_neg e3]
          simp [lookE, e2]
section
variable {ρ : List (Int × Core)}
theorem EnvR.bind1 {ks ks' : List Int} {vs vs' : List Val} (h : EnvR ρ ks vs ks' vs') {p : Int} {u u' : Val} (hp : lookR ρ p = none) (hu : Sim ρ u u') : EnvR ρ (pKs ks p) (pVs ks vs p u) (pKs ks' p) (pVs ks' vs' p u') := by
  refine ⟨pKs_pVs h.l, pKs_pVs h.l', fun q c hq => ?_, fun q hq e => ?_, fun q v hq e => ?_, pKs_nodup h.nd⟩
  · have : p ≠ q := fun z => by subst z; rw [hp] at hq; cases hq
    rw [look_put h.l, if_neg this]
    exact h.hd q c hq
  · rw [look_put h.l] at e
    rw [look_put h.l']
    by_cases z : p = q
    · rw [if_pos z] at e; cases e
    · rw [if_neg z] at e ⊢
      exact h.hn q hq e
  · rw [look_put h.l] at e
    rw [look_put h.l']
    by_cases z : p = q
    · rw [if_pos z] at e ⊢
      cases e
      exact ⟨u', rfl, hu⟩
    · rw [if_neg z] at e ⊢
      exact h.hs q v hq e
inductive Sims (ρ : List (Int × Core)) : List Val → List Val → Prop
  | nil : Sims ρ [] []
  | cons {u u' : Val} {us us' : List Val} (h : Sim ρ u u') (hr : Sims ρ us us') : Sims ρ (u :: us) (u' :: us')
theorem Sims.len {us us' : List Val} (h : Sims ρ us us') : us'.length = us.length := by
  induction h with
  | nil => rfl
  | cons _ _ ih => simp [ih]
theorem EnvR.bind : ∀ {ps : List (Int × Str)} {us us' : List Val} {ks ks' : List Int} {vs vs' : List Val}, EnvR ρ ks vs ks' vs' → (∀ p ∈ ps, lookR ρ p.1 = none) → Sims ρ us us' → EnvR ρ (bKs ps us ks) (bVs ps us ks vs) (bKs ps us' ks') (bVs ps us' ks' vs')
  | [], us, us', ks, ks', vs, vs', h, _, _ => by unfold bKs bVs; exact h
  | p :: ps, _, _, ks, ks', vs, vs', h, hp, hu => by
    cases hu with
    | nil => unfold bKs bVs; exact h
    | cons a b =>
      unfold bKs bVs
      exact EnvR.bind (h.bind1 (hp p List.mem_cons_self) a) (fun q hq => hp q (List.mem_cons_of_mem _ hq)) b
inductive AnsSim (ρ : List (Int × Core)) : Ans → Ans → Prop
  | val {v v' : Val} (h : Sim ρ v v') : AnsSim ρ (.val v) (.val v')
  | vals {us us' : List Val} (h : Sims ρ us us') : AnsSim ρ (.vals us) (.vals us')
  | fin {s : Str} : AnsSim ρ (.fin s) (.fin s)
/-- what a job must be beside another one -/
def JobR (ρ : List (Int × Core)) (r : Ans) (k k' d : Nat) : Job → Prop
  | .one ks vs c => ∀ ks' vs', EnvR ρ ks vs ks' vs' → c.fresh ρ → ks'.length + c.sz < 16777216 → ∃ r', Ev [] [] k (.one ks' vs' (c.put ρ)) r' k' d ∧ AnsSim ρ r r'
  | .many ks vs xs => ∀ ks' vs', EnvR ρ ks vs ks' vs' → freshAll ρ xs → ks'.length + szs xs < 16777216 → ∃ r', Ev [] [] k (.many ks' vs' (putAll ρ xs)) r' k' d ∧ AnsSim ρ r r'
  | .app v us => ∀ v' us', Sim ρ v v' → Sims ρ us us' → ∃ r', Ev [] [] k (.app v' us') r' k' d ∧ AnsSim ρ r r'
theorem sim_run {tk : List Int} {tv : List Val} {k k' d : Nat} {j : Job} {r : Ans} (h : Ev tk tv k j r k' d) : tk = [] → JobR ρ r k k' d j := by
  induction h with
  | num => intro _ ks' vs' _ _ _; exact ⟨_, .num, .val .num⟩
  | free h => intro _ ks' vs' _ _ _; exact ⟨_, .free h, .val .op⟩
  | freeS h => intro _ ks' vs' _ _ _; exact ⟨_, .freeS h, .fin⟩
  | @seenK k ks vs p v h =>
    intro _ ks' vs' R _ hz
    show ∃ r', Ev [] [] k (.one ks' vs' ((lookR ρ p).getD (.seen p))) r' k 0 ∧ _
    cases e : lookR ρ p with
    | some c =>
      obtain ⟨w, hw, ht⟩ := R.hd p c e
      rw [h] at hw
      cases hw
      cases ht with
      | num => exact ⟨_, .num, .val .num⟩
      | op hx => exact ⟨_, .free hx, .val .op⟩
      | thunk => exact ⟨_, .fn, .val (.thunk ⟨R.nd, by rw [Core.sz] at hz; omega⟩)⟩
    | none =>
      obtain ⟨v', e', hs⟩ := R.hs p v e h
      exact ⟨_, .seenK e', .val hs⟩
  | seenT h h2 => intro ht; subst ht; simp [lookE] at h2
  | @seenS k ks vs p h h2 =>
    intro ht ks' vs' R _ hz
    show ∃ r', Ev [] [] k (.one ks' vs' ((lookR ρ p).getD (.seen p))) r' k 0 ∧ _
    cases e : lookR ρ p with
    | some c =>
      obtain ⟨w, hw, _⟩ := R.hd p c e
      rw [h] at hw
      cases hw
    | none => exact ⟨_, .seenS (R.hn p e h) rfl, .fin⟩
  | @fn k ks vs ps b =>
    intro _ ks' vs' R hf hz
    rw [Core.sz] at hz
    have hf : (∀ p ∈ ps, lookR ρ p.1 = none) ∧ b.fresh ρ := by rw [Core.fresh] at hf; exact hf
    refine ⟨_, .fn, .val (.fn R.l R.l' R.hd R.hn (fun p => (lookE ks' vs' p).getD (.num 0)) (fun p v h1 h2 => ?_) (fun p v h1 h2 => ?_) hf.1 hf.2 ⟨R.nd, by omega⟩)⟩
    · obtain ⟨v', e', _⟩ := R.hs p v h1 h2
      rw [e']
      rfl
    · obtain ⟨v', e', s⟩ := R.hs p v h1 h2
      rw [e']
      exact s
  | now _ ih =>
    intro ht ks' vs' R hf hz
    rw [Core.sz] at hz
    obtain ⟨r', h1, h2⟩ := ih ht ks' vs' R (by rw [Core.fresh] at hf; exact hf) (by omega)
    exact ⟨r', .now h1, h2⟩
  | pickF _ ih =>
    intro ht ks' vs' R hf hz
    rw [Core.sz] at hz
    rw [Core.fresh] at hf
    obtain ⟨r', h1, h2⟩ := ih ht ks' vs' R hf.1 (by omega)
    cases h2
    exact ⟨_, .pickF h1, .fin⟩
  | @pick k k1 k2 d d2 ks vs a b c n r _ _ ih ih2 =>
    intro ht ks' vs' R hf hz
    rw [Core.sz] at hz
    rw [Core.fresh] at hf
    obtain ⟨r', h1, h2⟩ := ih ht ks' vs' R hf.1 (by omega)
    cases h2 with
    | val s =>
      cases s
      obtain ⟨r2, h3, h4⟩ := ih2 ht ks' vs' R (by split; exact hf.2.2; exact hf.2.1) (by split <;> omega)
      have e : (if n = 0 then c else b).put ρ = if n = 0 then c.put ρ else b.put ρ := by split <;> rfl
      rw [e] at h3
      exact ⟨r2, .pick h1 h3, h4⟩
  | pickS _ hv ih =>
    intro ht ks' vs' R hf hz
    rw [Core.sz] at hz
    rw [Core.fresh] at hf
    obtain ⟨r', h1, h2⟩ := ih ht ks' vs' R hf.1 (by omega)
    cases h2 with
    | val s => exact ⟨_, .pickS h1 (fun n z => by subst z; cases s; exact hv _ rfl), .fin⟩
  | @callF k k1 d ks vs f xs s _ ih =>
    intro ht ks' vs' R hf hz
    rw [Core.sz] at hz
    rw [Core.fresh] at hf
    obtain ⟨r', h1, h2⟩ := ih ht ks' vs' R hf.1 (by omega)
    cases h2
    have := Ev.callF (xs := putAll ρ xs) h1
    rw [putAll_len] at this
    exact ⟨_, this, .fin⟩
  | @callX k k1 k2 d d2 ks vs f xs v s _ _ ih ih2 =>
    intro ht ks' vs' R hf hz
    rw [Core.sz] at hz
    rw [Core.fresh] at hf
    obtain ⟨r', h1, h2⟩ := ih ht ks' vs' R hf.1 (by omega)
    obtain ⟨r2, h3, h4⟩ := ih2 ht ks' vs' R hf.2 (by omega)
    cases h2
    cases h4
    have := Ev.callX h1 h3
    rw [putAll_len] at this
    exact ⟨_, this, .fin⟩
  | @call k k1 k2 k3 d d2 d3 ks vs us f xs v r _ _ _ ih ih2 ih3 =>
    intro ht ks' vs' R hf hz
    rw [Core.sz] at hz
    rw [Core.fresh] at hf
    obtain ⟨r', h1, h2⟩ := ih ht ks' vs' R hf.1 (by omega)
    obtain ⟨r2, h3, h4⟩ := ih2 ht ks' vs' R hf.2 (by omega)
    cases h2 with
    | val s =>
      cases h4 with
      | vals ss =>
        obtain ⟨r3, h5, h6⟩ := ih3 ht _ _ s ss
        have := Ev.call h1 h3 h5
        rw [putAll_len] at this
        exact ⟨_, this, h6⟩
  | mnil => intro _ ks' vs' _ _ _; exact ⟨_, .mnil, .vals .nil⟩
  | mconsF _ ih =>
    intro ht ks' vs' R hf hz
    rw [szs] at hz
    rw [freshAll] at hf
    obtain ⟨r', h1, h2⟩ := ih ht ks' vs' R hf.1 (by omega)
    cases h2
    exact ⟨_, .mconsF h1, .fin⟩
  | mconsX _ _ ih ih2 =>
    intro ht ks' vs' R hf hz
    rw [szs] at hz
    rw [freshAll] at hf
    obtain ⟨r', h1, h2⟩ := ih ht ks' vs' R hf.1 (by omega)
    obtain ⟨r2, h3, h4⟩ := ih2 ht ks' vs' R hf.2 (by omega)
    cases h2
    cases h4
    exact ⟨_, .mconsX h1 h3, .fin⟩
  | mcons _ _ ih ih2 =>
    intro ht ks' vs' R hf hz
    rw [szs] at hz
    rw [freshAll] at hf
    obtain ⟨r', h1, h2⟩ := ih ht ks' vs' R hf.1 (by omega)
    obtain ⟨r2, h3, h4⟩ := ih2 ht ks' vs' R hf.2 (by omega)
    cases h2 with
    | val s =>
      cases h4 with
      | vals ss => exact ⟨_, .mcons h1 h3, .vals (.cons s ss)⟩
  | appO hl hk h0 =>
    intro ht v' us' hv hu
    subst h0
    have le := hu.len
    cases hv with
    | thunk nd => exact ⟨_, .appO (by rw [le]; exact hl) ⟨nd.1, nd.2⟩ rfl, .fin⟩
    | fn _ _ _ _ _ _ _ _ _ nd => exact ⟨_, .appO (by rw [le]; exact hl) ⟨nd.1, by omega⟩ rfl, .fin⟩
  | @appE k k' d ps b ks vs us r hl hk he ih =>
    intro ht v' us' hv hu
    have le := hu.len
    cases hv with
    | thunk nd =>
      cases he
      exact ⟨_, .appE (by rw [le]; exact hl) ⟨nd.1, nd.2⟩ .num, .val .num⟩
    | @fn _ _ _ ks' _ vs' l l' hd hn g hg hs fp fb nd =>
      have R : EnvR ρ ks vs ks' vs' := ⟨l, l', hd, hn, fun p v h1 h2 => ⟨g p, hg p v h1 h2, hs p v h1 h2⟩, nd.1⟩
      have bl := bKs_len ps us' ks'
      obtain ⟨r', h1, h2⟩ := ih ht _ _ (R.bind fp hu) fb (by omega)
      exact ⟨r', .appE (by rw [le]; exact hl) ⟨nd.1, by omega⟩ h1, h2⟩
  | appS hl hk =>
    intro ht v' us' hv hu
    have le := hu.len
    cases hv with
    | thunk nd => exact ⟨_, .appS (by rw [le]; exact hl) ⟨nd.1, nd.2⟩, .fin⟩
    | fn _ _ _ _ _ _ _ _ _ nd => exact ⟨_, .appS (by rw [le]; exact hl) ⟨nd.1, by omega⟩, .fin⟩
  | appR =>
    intro ht v' us' hv hu
    cases hv
    cases hu with
    | cons a b =>
      cases a
      cases b with
      | cons a b =>
        cases a
        cases b
        exact ⟨_, .appR, .val .num⟩
  | appQ h =>
    intro ht v' us' hv hu
    cases hv
    refine ⟨_, .appQ (fun a b z => ?_), .fin⟩
    subst z
    cases hu with
    | cons x y =>
      cases x
      cases y with
      | cons x y =>
        cases x
        cases y
        exact h _ _ rfl
  | appN =>
    intro ht v' us' hv hu
    cases hv
    exact ⟨_, .appN, .fin⟩
/-- .. tells the same -/
theorem Sim.told {v v' : Val} (h : Sim ρ v v') : told v' = told v := by cases h <;> rfl
end
end Pu
set_option Elab.async false
set_option linter.all false
set_option maxRecDepth 100000
set_option maxHeartbeats 4000000
set_option autoImplicit false
/-! evaluations that change cells and come to one thing -/
namespace Pu
open PySem PySem.Spec PyProof.Rows L2
/-- just this and these cells -/
def Is (x : Vl) (ω' : List Cell) : Vl → List Cell → Prop := fun y e => y = x ∧ e = ω'
def EvE (K : PySem.W.Frag) (te : TE) (ε : Sta) (x : Vl) (ω' : List Cell) : Prop := EvY K te ε fun y e => y = x ∧ e = ⟨ε.sl, ω'⟩
def EvEs (K : PySem.W.Frag) (tu : TA) (ε : Sta) (xs : List Vl) (ω' : List Cell) : Prop := EvYs K tu ε fun ys e => ys = xs ∧ e = ⟨ε.sl, ω'⟩
theorem VlsOk.dats {K : PySem.W.Frag} {α : List Addr} {G : Hp} : ∀ {vs : List V} {ds : List Dat}, VlsOk K α G vs (ds.map Vl.dat) → RL K G vs ds
  | _, [], h => by cases h; exact .nil
  | _, d :: ds, h => by
    cases h with
    | cons a b => exact .cons a (VlsOk.dats b)
section
variable {K : PySem.W.Frag} {sl : List Sl} {ω ω1 ω2 : List Cell} {te ta tb td : TE} {tu : TA} {tt : TT} {d z : Dat} {ds : List Dat} {l : Nat} {x : Vl} {xs : List Vl} {t u : TS} {Φ : Out → Prop}
theorem eve_d (h : EvD K te ⟨sl, ω⟩ d) : EvE K te ⟨sl, ω⟩ (.dat d) ω := evy_d h ⟨rfl, rfl⟩
theorem eve_m {m : Bool} (h : EvM K te ⟨sl, ω⟩ d m) (e : m = true) : EvE K te ⟨sl, ω⟩ (.dat d) ω := eve_d (h.toD e)
theorem eve_l (h : EvL K te ⟨sl, ω⟩ l) : EvE K te ⟨sl, ω⟩ (.loc l) ω := evy_l h ⟨rfl, rfl⟩
theorem eve_new (h : EvN K te ⟨sl, ω⟩ ds) : EvE K te ⟨sl, ω⟩ (.loc ω.length) (ω ++ [.lst (ds.map Vl.dat)]) := evy_new h ⟨rfl, rfl⟩
theorem eve_newD {ks : List Key} (h : EvND K te ⟨sl, ω⟩ ks ds) : EvE K te ⟨sl, ω⟩ (.loc ω.length) (ω ++ [.dic ((ks.zip ds).map fun p => (p.1, Vl.dat p.2))]) := evy_newD h ⟨rfl, rfl⟩
theorem eve_pop (h : EvL K te ⟨sl, ω⟩ l) (hc : ω[l]? = some (.lst (xs ++ [x]))) : EvE K (tBM0 K "list" rPop te) ⟨sl, ω⟩ x (ω.set l (.lst xs)) := evy_pop h hc ⟨rfl, rfl⟩
theorem eves_nil : EvEs K tNil ⟨sl, ω⟩ [] ω := evys_nil ⟨rfl, rfl⟩
theorem eves_cons (h : EvE K te ⟨sl, ω⟩ x ω1) (hr : EvEs K tu ⟨sl, ω1⟩ xs ω2) : EvEs K (tCons te tu) ⟨sl, ω⟩ (x :: xs) ω2 :=
  evys_cons h fun y e p => by
    obtain ⟨rfl, rfl⟩ := p
    exact fun G0 H0 σ G H o Q q => hr G0 H0 σ G H o Q fun vs ys e' G1 G' H' p => q vs _ e' G1 G' H' ⟨by rw [p.1], p.2⟩
theorem eves_d (h : EvA K tu ⟨sl, ω⟩ ds) : EvEs K tu ⟨sl, ω⟩ (ds.map Vl.dat) ω := evys_d h ⟨rfl, rfl⟩
theorem eve_tup (h : EvEs K tu ⟨sl, ω⟩ (ds.map Vl.dat) ω1) (hl : ds.length ≤ 16777216) : EvE K (tTup tu) ⟨sl, ω⟩ (.dat (.tup ds)) ω1 := fun G0 H0 σ G H o Q q =>
  h G0 H0 σ G H o _ fun vs ys e G1 G' H' p g o' s r => by
    obtain ⟨rfl, rfl⟩ := p
    have rr := VlsOk.dats r
    refine ⟨size_ok (by rw [rr.len]; exact hl), fun p hp => ?_⟩
    have u2 : Up G' H' (upd G' p (.tup vs)) (upd H' p (.tup vs)) := .lay o'.up.le hp
    exact q _ _ _ G1 _ _ ⟨rfl, rfl⟩ g (o'.step u2) (s.trans u2.g) (.tup upd_same (rr.up u2.g))
theorem eve_call {P : PX} {E : XK} (h : EvEs K tu ⟨sl, ω⟩ xs ω1) (hP : P xs ω1 (Is x ω2)) : EvE K (tCall (spX K P) [] E tu) ⟨sl, ω⟩ x ω2 :=
  evy_call h fun ys e p => by
    obtain ⟨rfl, rfl⟩ := p
    exact ⟨_, hP, fun y ω' q => ⟨q.1, by rw [q.2]⟩⟩
theorem eve_callF {P : List Dat → Res → Prop} {E : XK} {dvs : List V} {es : List Dat} (h : EvEs K tu ⟨sl, ω⟩ (ds.map Vl.dat) ω1) (hd : ∀ G, RL K G dvs es) (hP : P (ds ++ es) (.dat z)) : EvE K (tCall (spF K P) dvs E tu) ⟨sl, ω⟩ (.dat z) ω1 := fun G0 H0 σ G H o Q q =>
  h G0 H0 σ G H o _ fun vs ys e G1 G' H' p g o' s r => by
    obtain ⟨rfl, rfl⟩ := p
    exact ⟨G', _, _, o'.up.le, (VlsOk.dats r).app (hd _), hP, fun v G2 H2 hr => q v _ _ G1 _ _ ⟨rfl, rfl⟩ g (o'.step hr.1) (s.trans hr.1.g) hr.2⟩
theorem eve_op {r : R2} {y1 y2 : Dat} (ha : EvE K ta ⟨sl, ω⟩ (.dat y1) ω1) (hb : EvE K tb ⟨sl, ω1⟩ (.dat y2) ω2) (hr : RD K r y1 y2 z) : EvE K (tOp r ta tb) ⟨sl, ω⟩ (.dat z) ω2 := fun G0 H0 σ G H o Q q =>
  ha G0 H0 σ G H o _ fun v y e G1 G' H' p g o' s r1 => by
    obtain ⟨rfl, rfl⟩ := p
    refine hb G1 H0 σ G' H' o' _ fun w y e G2 G'' H'' p g2 o2 s2 r2 => ?_
    obtain ⟨rfl, rfl⟩ := p
    exact hr v w G'' H'' o2.up.le (R.up r1 s2) r2 Q fun v3 G3 H3 u3 r3 => q v3 _ _ G2 G3 H3 ⟨rfl, rfl⟩ (g.trans g2) (o2.step u3) ((s.trans s2).trans u3.g) r3
theorem ex_setE {i : Nat} (h : EvE K te ⟨sl, ω⟩ x ω1) (k : ExS K u ⟨sl.set i x.sl, ω1⟩ Φ) : ExS K (tSeq (tAsg te (gName i)) u) ⟨sl, ω⟩ Φ := ex_setY h fun y e p => by
  obtain ⟨rfl, rfl⟩ := p
  exact k
theorem ex_exprE (h : EvE K te ⟨sl, ω⟩ x ω1) (k : ExS K u ⟨sl, ω1⟩ Φ) : ExS K (tSeq (tDrop te) u) ⟨sl, ω⟩ Φ := ex_exprY h fun y e p => by
  obtain ⟨rfl, rfl⟩ := p
  exact k
theorem ex_retE (h : EvE K te ⟨sl, ω⟩ x ω1) (k : Φ (.retX x ⟨sl, ω1⟩)) : ExS K (tRet te) ⟨sl, ω⟩ Φ := ex_retY h fun y e p => by
  obtain ⟨rfl, rfl⟩ := p
  exact k
/-- o.append(e), o a cell, e changing cells -/
theorem ex_appE {ys zs : List Vl} (ho : EvL K ta ⟨sl, ω⟩ l) (hc : ω[l]? = some (.lst ys)) (h : EvE K te ⟨sl, ω⟩ x ω1) (hc2 : ω1[l]? = some (.lst zs)) (hl : zs.length < 16777216) (k : ExS K u ⟨sl, ω1.set l (.lst (zs ++ [x]))⟩ Φ) :
    ExS K (tSeq (tDrop (tBM K "list" rAppend ta (tCons te tNil))) u) ⟨sl, ω⟩ Φ := ex_appY ho hc h fun y e p => by
  obtain ⟨rfl, rfl⟩ := p
  exact ⟨zs, hc2, hl, k⟩
/-- d.get(k, x), d a dict that stands -/
theorem evd_dget2 {ε : Sta} {ty tx : TE} {k : Key} {ks : List Key} {d0 : Dat} (h : EvD K td ε (.dic ks ds)) (hy : EvH K ty ε (keyD k)) (hx : EvD K tx ε d0) (hd : (lookD ks ds k).getD d0 = d) : EvD K (tDGet2 td ty tx) ε d := fun G0 H0 σ G H o Q q =>
  h G0 H0 σ G H o _ fun v G1 H1 o1 u1 r1 => by
    cases r1 with
    | @dic a kvs _ e r =>
      refine ⟨a, rfl, .inl ⟨_, .inl (o1.up.le _ _ e)⟩, hy G0 H0 σ G1 H1 o1 _ fun w G2 H2 o2 u2 r2 => hx G0 H0 σ G2 H2 o2 _ fun w3 G3 H3 o3 u3 r3 => ?_⟩
      have e' := o3.up.le _ _ (u3.g _ _ (u2.g _ _ e))
      have rr : PsOk K ([] : List Addr) G3 kvs _ := RL.valD (ks := []) ((r.up u2.g).up u3.g)
      rw [r2.keyD]
      refine ⟨_, DGet.k e', ?_⟩
      cases e3 : lookD (kvs.map (·.1)) ds k with
      | none =>
        rw [e3] at hd
        cases hd
        rw [(rr.val k).2 (by rw [lookD_look, e3]; rfl)]
        exact q w3 G3 H3 o3 ((u1.trans u2).trans u3) r3
      | some d1 =>
        rw [e3] at hd
        cases hd
        obtain ⟨x, e2, r4⟩ := (rr.val k).1 (.dat d1) (by rw [lookD_look, e3]; rfl)
        rw [e2]
        exact q x G3 H3 o3 ((u1.trans u2).trans u3) r4
end
/-- a promise of nothing -/
theorem fn_none {P : Program} {w : World} {K : PySem.W.Frag} {mg : Str → Option Value} {base : Heap} {CX : CXT} {k : Nat} {f : Addr} {fd : FuncData} {ps : List Str} {Pm : List Dat → Res → Prop} (h : ∀ ds r, Pm ds r → False) : FnOk P w K mg base CX k f fd ps (spF K Pm) :=
  ⟨fun vs H Q E ⟨_, ds, r, _, _, q, _⟩ => (h ds r q).elim, fun A outer s H args us vs Q E _ _ _ _ ⟨_, ds, r, _, _, q, _⟩ => (h ds r q).elim⟩
theorem fn_noneX {P : Program} {w : World} {K : PySem.W.Frag} {mg : Str → Option Value} {base : Heap} {CX : CXT} {k : Nat} {f : Addr} {fd : FuncData} {ps : List Str} {Pm : PX} (h : ∀ xs ω Ψ, Pm xs ω Ψ → False) : FnOk P w K mg base CX k f fd ps (spX K Pm) :=
  ⟨fun vs H Q E ⟨_, _, xs, ω, Ψ, _, _, q, _⟩ => (h xs ω Ψ q).elim, fun A outer s H args us vs Q E _ _ _ _ ⟨_, _, xs, ω, Ψ, _, _, q, _⟩ => (h xs ω Ψ q).elim⟩
theorem evw_is {K : PySem.W.Frag} {wi : TI} {ε : Sta} {a b : List Dat} (h : EvW K wi ε a) (e : a = b) : EvW K wi ε b := e ▸ h
end Pu
set_option Elab.async false
set_option linter.all false
set_option maxRecDepth 100000
set_option maxHeartbeats 4000000
set_option autoImplicit false
/-! the kinds of answers that there are -/
namespace Pu
open PySem PySem.Spec PyProof.Rows L2
inductive GoodV : Val → Prop
  | num {n : Int} : GoodV (.num n)
  | op {x : Str} (h : isOp x = true) : GoodV (.op x)
  | fn {ps : List (Int × Str)} {b : Core} {ks : List Int} {vs : List Val} (hv : ∀ v ∈ vs, GoodV v) : GoodV (.fn ps b ks vs)
def JobG : Job → Prop
  | .one _ vs _ => ∀ v ∈ vs, GoodV v
  | .many _ vs _ => ∀ v ∈ vs, GoodV v
  | .app v us => GoodV v ∧ ∀ u ∈ us, GoodV u
def AnsG : Ans → Prop
  | .val v => GoodV v
  | .vals us => ∀ u ∈ us, GoodV u
  | .fin s => s = "stuck" ∨ s = "on"
theorem ev_good {tk : List Int} {tv : List Val} {k k' d : Nat} {j : Job} {r : Ans} (h : Ev tk tv k j r k' d) (ht : ∀ v ∈ tv, GoodV v) : JobG j → AnsG r := by
  induction h with
  | num => intro _; exact .num
  | free h => intro _; exact .op h
  | freeS h => intro _; exact .inl rfl
  | seenK h => intro g; exact g _ (lookE_mem h)
  | seenT h h2 => intro _; exact ht _ (lookE_mem h2)
  | seenS h h2 => intro _; exact .inl rfl
  | fn => intro g; exact .fn g
  | now _ ih => intro g; exact ih g
  | pickF _ ih => intro g; exact ih g
  | pick _ _ ih ih2 => intro g; exact ih2 g
  | pickS _ _ ih => intro _; exact .inl rfl
  | callF _ ih => intro g; exact ih g
  | callX _ _ ih ih2 => intro g; exact ih2 g
  | call _ _ _ ih ih2 ih3 => intro g; exact ih3 ⟨ih g, ih2 g⟩
  | mnil => intro _ u hu; cases hu
  | mconsF _ ih => intro g; exact ih g
  | mconsX _ _ ih ih2 => intro g; exact ih2 g
  | mcons _ _ ih ih2 =>
    intro g u hu
    rcases List.mem_cons.mp hu with rfl | hu
    · exact ih g
    · exact ih2 g u hu
  | appO => intro _; exact .inr rfl
  | appE _ _ _ ih =>
    intro g
    refine ih fun v hv => ?_
    rcases bVs_mem hv with h | h
    · exact g.2 v h
    · cases g.1 with
      | fn hv => exact hv v h
  | appS => intro _; exact .inl rfl
  | appR => intro _; exact .num
  | appQ => intro _; exact .inl rfl
  | appN => intro _; exact .inl rfl
/-- an answer as it is told -/
def rowOf : Ans → Dat
  | .val v => told v
  | .vals us => .tup []
  | .fin s => .tup [.str s]
theorem op_ok {x : Str} (h : isOp x = true) : PyData.strOk x = true := by
  unfold isOp at h
  have hx : x = "add" ∨ x = "sub" ∨ x = "less" := by simpa using h
  rcases hx with rfl | rfl | rfl <;> decide +kernel
theorem row_good {r : Ans} (h : AnsG r) : (rowOf r).plain 3 = true ∧ ∃ y, rowOf r = .tup y := by
  have g1 : PyData.strOk "num" = true := by decide +kernel
  have g2 : PyData.strOk "op" = true := by decide +kernel
  have g3 : PyData.strOk "fn" = true := by decide +kernel
  cases r with
  | vals us => exact ⟨rfl, _, rfl⟩
  | fin s =>
    have : PyData.strOk s = true := by rcases h with rfl | rfl <;> decide +kernel
    exact ⟨by simp [rowOf, Dat.plain, Dat.plains, this], _, rfl⟩
  | val v =>
    cases v with
    | num n => exact ⟨by simp [rowOf, told, Dat.plain, Dat.plains, g1], _, rfl⟩
    | op x =>
      cases h with
      | op hx => exact ⟨by simp [rowOf, told, Dat.plain, Dat.plains, g2, op_ok hx], _, rfl⟩
    | fn ps b ks vs => exact ⟨by simp [rowOf, told, Dat.plain, Dat.plains, g3], _, rfl⟩
theorem run_one {k k' d : Nat} {c : Core} {r : Ans} (h : Ev [] [] k (.one [] [] c) r k' d) (hd : d < 16000000) (hv : ∀ us, r ≠ .vals us) : RunI [] [] k [.shw c] [rowOf r] := by
  cases r with
  | vals us => exact absurd rfl (hv us)
  | val v => exact .shw h hd .nil
  | fin s => exact .shwF h hd
end Pu
set_option Elab.async false
set_option linter.all false
set_option maxRecDepth 100000
set_option maxHeartbeats 4000000
set_option autoImplicit false
/-! more statements that change cells -/
namespace Pu
open PySem PySem.Spec PyProof.Rows L2
theorem VlsOk.set {K : PySem.W.Frag} {α : List Addr} {G : Hp} : ∀ {vs : List V} {xs : List Vl} (j : Nat) {v : V} {x : Vl}, VlsOk K α G vs xs → VlOk K α G v x → VlsOk K α G (vs.set j v) (xs.set j x)
  | _, [], j, v, x, h, r => by cases h; exact .nil
  | _, y :: xs, 0, v, x, h, r => by
    cases h with
    | cons a b => exact .cons r b
  | _, y :: xs, j + 1, v, x, h, r => by
    cases h with
    | cons a b => exact .cons a (VlsOk.set j b r)
section
variable {K : PySem.W.Frag} {ε : Sta} {sl : List Sl} {ω ω1 ω2 : List Cell} {te ta tb td to ti : TE} {tu : TA} {tt : TT} {d z : Dat} {ds : List Dat} {l : Nat} {x : Vl} {xs : List Vl} {t u : TS} {Φ : Out → Prop}
/-- xs[::-1] -/
theorem evn_rev (h : EvD K te ε (.lst ds)) : EvN K (tRevL K te) ε ds.reverse := fun G0 H0 σ G H o Q q => h G0 H0 σ G H o _ fun v G1 H1 o1 u1 r1 => by
  cases r1 with
  | lst sq rl =>
    exact ⟨_, _, rfl, o1.up.le.seq sq, fun p hp =>
      have u4 : Up G1 H1 G1 _ := .own o1.up.le hp
      q p _ _ _ (o1.step u4) (u1.trans u4) (u1.h.free hp) upd_same (o1.up.le.free hp) rl.rev⟩
/-- o[k] = e, o a cell that is a list -/
theorem ex_setIx {k : Int} {j : Nat} (h : EvE K te ⟨sl, ω⟩ x ω1) (ho : EvL K to ⟨sl, ω1⟩ l) (hc : ω1[l]? = some (.lst xs)) (hi : EvH K ti ⟨sl, ω1⟩ (.int k)) (hj : ixN xs.length k = some j) (q : ExS K u ⟨sl, ω1.set l (.lst (xs.set j x))⟩ Φ) :
    ExS K (tSeq (tAsg te (gSub to ti rSetL)) u) ⟨sl, ω⟩ Φ := fun G0 H0 σ G H D o w => h G0 H0 σ G H o _ fun v y e G1 G' H' p g o' sm r => by
  obtain ⟨rfl, rfl⟩ := p
  refine ho G1 H0 σ G' H' o' _ fun a ha => hi G1 H0 σ G' H' o' _ fun w2 G2 H2 o2 u2 r2 => ?_
  cases r2
  obtain ⟨vs, e, rr⟩ := o2.cell ha hc
  exact ⟨a, vs, k, j, rfl, rfl, e, by rw [rr.len]; exact hj, q G1 H0 σ G2 _ D (o2.put (c := .lst (xs.set j y)) ha ⟨_, upd_same, rr.set j (r.up u2.g)⟩) ((w.gr g).up (sm.trans u2.g))⟩
/-- xs.append(e), our own list, e changing cells -/
theorem ex_appOE {i : Nat} (h : sl[i]? = some (.own ds)) (he : EvE K te ⟨sl, ω⟩ (.dat d) ω1) (hl : ds.length < 16777216) (k : ExS K u ⟨sl.set i (.own (ds ++ [d])), ω1⟩ Φ) :
    ExS K (tSeq (tDrop (tBM K "list" rAppend (tVar i) (tCons te tNil))) u) ⟨sl, ω⟩ Φ := fun G0 H0 σ G H D o w => by
  obtain ⟨v, a, p, xs, e, hp, hg, h0, r⟩ := o.get i _ h
  subst e
  refine ⟨_, a, .inl ⟨rfl, xs, .inl (.inl hp)⟩, he G0 H0 σ G H o _ fun v y e G1 G' H' pe g o' sm rv => ?_⟩
  obtain ⟨rfl, rfl⟩ := pe
  obtain ⟨v', a', p', xs', e', hp', hg', h0', r'⟩ := o'.get i _ h
  subst e'
  have : p' = p := by
    have := a.symm.trans a'
    injection this with this
    injection this with this
    injection this with this
    exact this.symm
  subst this
  refine ⟨p', xs', v, rfl, rfl, hp', size_lt (by rw [r'.len]; exact hl), ?_⟩
  exact k G1 H0 σ G' _ D (o'.write (e := .own ds) h rfl a' ⟨p', _, rfl, upd_same, hg', h0', r'.app (.one rv)⟩ rfl) ((w.gr g).up sm)
/-- a walk, cells changing where it begins -/
def EvWE (K : PySem.W.Frag) (wi : TI) (ε : Sta) (ds : List Dat) (ω1 : List Cell) : Prop := ∀ (G0 : Gh) (H0 : Hp) (σ : L2.St) (G H : Hp), Ok K G0 H0 ε σ G H → ∀ Q : It → Hp → Prop, (∀ J G1 G' H', Gr G0 G1 → Ok K G1 H0 ⟨ε.sl, ω1⟩ σ G' H' → Same G G' → Walks K J G' ds → Q J H') → wi σ H Q
theorem evwe_list (h : EvE K te ⟨sl, ω⟩ (.dat (.lst ds)) ω1) : EvWE K (iList K te) ⟨sl, ω⟩ ds ω1 := fun G0 H0 σ G H o Q q => h G0 H0 σ G H o _ fun v y e G1 G' H' p g o' sm r => by
  obtain ⟨rfl, rfl⟩ := p
  cases r with
  | lst sq rl => exact ⟨_, rfl, ⟨_, o'.up.le.seq sq⟩, q _ G1 G' H' g o' sm (walks_list sq rl)⟩
theorem ex_forE {wi : TI} {g : TG} (I : Nat → Sta → Prop) (h : EvWE K wi ⟨sl, ω⟩ ds ω1) (h0 : I 0 ⟨sl, ω1⟩)
    (hs : ∀ i d ε', ds[i]? = some d → I i ε' → ∃ ε'', EvG K g ε' d ε'' ∧ ExS K t ε'' (Turns Φ (I (i + 1)) fun e => ExS K u e Φ)) (hd : ∀ ε', I ds.length ε' → ExS K u ε' Φ) :
    ExS K (tSeq (tFor wi g t) u) ⟨sl, ω⟩ Φ := fun G0 H0 σ G H D o w0 => h G0 H0 σ G H o _ fun J Ga G1 H1 ga o1 sa W => by
  have w := (w0.gr ga).up sa
  refine ⟨fun i m σ' H' => m = ds.length - i ∧ i ≤ ds.length ∧ ∃ ε' G' G2, Gr Ga G2 ∧ I i ε' ∧ Ok K G2 H0 ε' σ' G' H' ∧ Same G1 G', ⟨ds.length, by simp, Nat.zero_le _, ⟨sl, ω1⟩, G1, Ga, .refl, h0, o1, .refl _⟩, ?_⟩
  rintro i m σ' H' ⟨rfl, hi, ε', G', G9, g9, hI, o', s'⟩
  obtain ⟨W1, W2⟩ := W i G' H' s' o'.up.le
  by_cases hlt : i < ds.length
  · obtain ⟨go, yl⟩ := W1 _ (List.getElem?_eq_getElem hlt)
    obtain ⟨ε'', hg, hb⟩ := hs i _ ε' (List.getElem?_eq_getElem hlt) hI
    refine .inr ⟨go, fun σ2 H2 => ∃ e G2 G8, Gr Ga G8 ∧ I (i + 1) e ∧ Ok K G8 H0 e σ2 G2 H2 ∧ Same G1 G2, fun σ2 H2 ⟨e, G2, G8, g8, a, b, c⟩ => ⟨ds.length - (i + 1), by omega, rfl, hlt, e, G2, G8, g8, a, b, c⟩, fun x H3 y => ?_⟩
    obtain ⟨G3, u3, r3⟩ := yl x H3 y
    have o3 := o'.step u3
    have s3 := s'.trans u3.g
    refine hg G9 H0 σ' G3 H3 x o3 r3 _ fun σ4 o4 => ?_
    have w9 := w.gr g9
    exact hb G9 H0 σ4 G3 H3 _ o4 ⟨fun G8 e σ2 G2 H2 g p o2 s2 => ⟨e, G2, G8, g9.trans g, p, o2, s3.trans s2⟩, fun G8 e σ2 G2 H2 g p o2 s2 => p G8 H0 σ2 G2 H2 D o2 ((w9.gr g).up (s3.trans s2)), fun G8 e σ2 G2 H2 g p o2 s2 => ⟨e, G2, G8, g9.trans g, p, o2, s3.trans s2⟩, fun r v G2 H2 p q => w9.rt r v G2 H2 p q, fun x e v G8 σ2 G2 H2 g p o2 q => w9.rx x e v G8 σ2 G2 H2 g p o2 q⟩
  · have e : i = ds.length := by omega
    subst e
    exact .inl ⟨W2 (Nat.le_refl _), hd ε' hI G9 H0 σ' G' H' D o' ((w.gr g9).up s')⟩
end
theorem pe_revLK {X : Cx} {K : PySem.W.Frag} (hK : X.K = K) {e : Expr} {te : TE} {k : Nat} {p1 p2 p3 pos : Pos} (he : PE X e te) : PE X (.Subscript e (.Slice none none (some (.UnaryOp .USub (.Constant (.int 1) k p1) p2)) p3) pos) (tRevL K te) := by
  subst hK
  exact pe_revL he
/-! how deep a core's tuples lie -/
theorem plain_le {n m : Nat} {d : Dat} (h : n ≤ m) (p : d.plain n = true) : d.plain m = true := by
  induction m with
  | zero => have : n = 0 := by omega
            subst this; exact p
  | succ m ih =>
    by_cases e : n = m + 1
    · subst e; exact p
    · exact mono_plain (ih (by omega))
def PL (k : Nat) (c : Core) : Prop := c.dat.plain k = true
theorem PL.le {n m : Nat} {c : Core} (p : PL n c) (h : n ≤ m) : PL m c := plain_le h p
theorem pl_num {k : Nat} {n : Int} : PL (k + 1) (.num n) := by
  have g : PyData.strOk "num" = true := by decide +kernel
  unfold PL
  simp only [Core.dat]
  simp [Dat.plain, Dat.plains, g]
theorem pl_seen {k : Nat} {n : Int} : PL (k + 1) (.seen n) := by
  have g : PyData.strOk "seen" = true := by decide +kernel
  unfold PL
  simp only [Core.dat]
  simp [Dat.plain, Dat.plains, g]
theorem pl_free {k : Nat} {x : Str} (h : PyData.strOk x = true) : PL (k + 1) (.free x) := by
  have g : PyData.strOk "free" = true := by decide +kernel
  unfold PL
  simp only [Core.dat]
  simp [Dat.plain, Dat.plains, g, h]
theorem str_pl {n : Nat} {x : Str} (h : PyData.strOk x = true) : (Dat.str x).plain n = true := by cases n <;> simpa [Dat.plain] using h
theorem int_pl {n : Nat} {i : Int} : (Dat.int i).plain n = true := by cases n <;> rfl
theorem tup_pl {n : Nat} {ds : List Dat} (h : ∀ d ∈ ds, d.plain n = true) : (Dat.tup ds).plain (n + 1) = true := by
  rw [Dat.plain]
  exact plains_all h
theorem lst_pl {n : Nat} {ds : List Dat} (h : ∀ d ∈ ds, d.plain n = true) : (Dat.lst ds).plain (n + 1) = true := by
  rw [Dat.plain]
  exact plains_all h
theorem pl_call {k : Nat} {f : Core} {xs : List Core} (hf : PL k f) (hx : ∀ x ∈ xs, PL k x) : PL (k + 2) (.call f xs) := by
  have g : PyData.strOk "call" = true := by decide +kernel
  unfold PL
  simp only [Core.dat, coresD_map]
  refine tup_pl fun d hd => ?_
  simp only [List.mem_cons, List.not_mem_nil, or_false] at hd
  rcases hd with rfl | rfl | rfl
  · exact str_pl g
  · exact plain_le (by omega) hf
  · exact tup_pl fun d hd => by
      obtain ⟨x, hx', rfl⟩ := List.mem_map.mp hd
      exact hx x hx'
theorem pl_fn {k : Nat} {ps : List (Int × Str)} {b : Core} (hb : PL (k + 2) b) (hp : ∀ p ∈ ps, PyData.strOk p.2 = true) : PL (k + 3) (.fn ps b) := by
  have g : PyData.strOk "fn" = true := by decide +kernel
  unfold PL
  simp only [Core.dat]
  refine tup_pl fun d hd => ?_
  simp only [List.mem_cons, List.not_mem_nil, or_false] at hd
  rcases hd with rfl | rfl | rfl
  · exact str_pl g
  · refine tup_pl fun d hd => ?_
    obtain ⟨p, hp', rfl⟩ := List.mem_map.mp hd
    refine tup_pl fun d hd => ?_
    simp only [List.mem_cons, List.not_mem_nil, or_false] at hd
    rcases hd with rfl | rfl
    · exact int_pl
    · exact str_pl (hp p hp')
  · exact hb
theorem pl_pick {k : Nat} {a b c : Core} (ha : PL k a) (hb : PL k b) (hc : PL k c) : PL (k + 1) (.pick a b c) := by
  have g : PyData.strOk "pick" = true := by decide +kernel
  unfold PL
  simp only [Core.dat]
  refine tup_pl fun d hd => ?_
  simp only [List.mem_cons, List.not_mem_nil, or_false] at hd
  rcases hd with rfl | rfl | rfl | rfl
  · exact str_pl g
  · exact ha
  · exact hb
  · exact hc
theorem pl_now {k : Nat} {a : Core} (ha : PL k a) : PL (k + 1) (.now a) := by
  have g : PyData.strOk "now" = true := by decide +kernel
  unfold PL
  simp only [Core.dat]
  refine tup_pl fun d hd => ?_
  simp only [List.mem_cons, List.not_mem_nil, or_false] at hd
  rcases hd with rfl | rfl
  · exact str_pl g
  · exact ha
theorem ex_setP {K : PySem.W.Frag} {sl : List Sl} {ω ω1 : List Cell} {tu : TA} {xs : List Vl} {u : TS} {Φ : Out → Prop} {P : PX} {E : XK} {i : Nat} {Ψc : Vl → List Cell → Prop} (h : EvEs K tu ⟨sl, ω⟩ xs ω1) (hP : P xs ω1 Ψc) (k : ∀ x ω', Ψc x ω' → ExS K u ⟨sl.set i x.sl, ω'⟩ Φ) : ExS K (tSeq (tAsg (tCall (spX K P) [] E tu) (gName i)) u) ⟨sl, ω⟩ Φ :=
  ex_setY (evy_call (Ψ := fun x e => ∃ ω', Ψc x ω' ∧ e = ⟨sl, ω'⟩) h fun ys e p => by
    obtain ⟨rfl, rfl⟩ := p
    exact ⟨Ψc, hP, fun x ω' q => ⟨ω', q, rfl⟩⟩) fun x e p => by
    obtain ⟨ω', q, rfl⟩ := p
    exact k x ω' q
theorem atI_last {α : Type} {xs : List α} {x : α} : atI (xs ++ [x]) (-1) = some x := by
  unfold atI ixN
  rw [if_neg (by decide), if_pos (by rw [List.length_append, List.length_singleton]; omega)]
  show (xs ++ [x])[(-1 + ((xs ++ [x]).length : Int)).toNat]? = some x
  have : (-1 + ((xs ++ [x]).length : Int)).toNat = xs.length := by rw [List.length_append, List.length_singleton]; omega
  rw [this]
  simp
theorem cut_last {xs : List Dat} {x : Dat} : cutD (xs ++ [x]) none (some (-1)) = xs := by
  unfold cutD
  have h1 : HT.sIx (xs ++ [x]).length 0 none = 0 := rfl
  have h2 : HT.sIx (xs ++ [x]).length (xs ++ [x]).length (some (-1)) = xs.length := by
    rw [List.length_append, List.length_singleton]
    simp only [HT.sIx]
    first | omega | (split <;> omega) | (split <;> split <;> omega)
  rw [h1, h2]
  simp
end Pu
set_option Elab.async false
set_option linter.all false
set_option maxRecDepth 100000
set_option maxHeartbeats 4000000
set_option autoImplicit false
/-! runs of items: there is one; more fuel -/
namespace Pu
open PySem PySem.Spec PyProof.Rows L2
def onD : Dat := .tup [.str "on"]
def stuckD : Dat := .tup [.str "stuck"]
/-- how rows end: not at all, or with a word -/
inductive EndR : List Dat → Prop
  | no : EndR []
  | stuck : EndR [stuckD]
  | on : EndR [onD]
/-- what is told: n how many shows; with a word at the end at most m rows -/
structure Told (m n : Nat) (vs : List Val) (t : List Dat) : Prop where
  good : ∀ v ∈ vs, GoodV v
  e : EndR t
  all : t = [] → vs.length = n
  few : t ≠ [] → vs.length + 1 ≤ m
theorem gnil : ∀ v ∈ ([] : List Val), GoodV v := fun v h => by cases h
theorem onil {B : Nat} : OkVs B ([] : List Val) := fun v h => by cases h
/-- one core by two fuels -/
theorem core_run {B : Nat} (hB : B ≤ 16000) (tk : List Int) {tv : List Val} (ht : OkVs B tv) (gt : ∀ v ∈ tv, GoodV v) {c : Core} (hc : c.sz ≤ B) (k : Nat) (hk : k ≤ 900) :
    ∃ r k' d, Ev tk tv k (.one [] [] c) r k' d ∧ k' ≤ k ∧ d < 16000000 ∧ AnsOk B r ∧ AnsG r ∧ ∀ us, r ≠ .vals us := by
  obtain ⟨r, k', d, h1, h2, h3, h4, h5⟩ := (total (B := B) (tk := tk) (tv := tv) (by omega) ht k).1.1 c [] [] List.nodup_nil (by simpa using hc) onil
  have : B * (k - k') ≤ 16000 * 900 := Nat.mul_le_mul hB (by omega)
  exact ⟨r, k', d, h1, h2, by omega, h4, ev_good h1 gt gnil, h5⟩
theorem on_ne {s : Str} (h : s = "stuck") : (Dat.tup [.str s]) ≠ onD := fun z => by
  subst h
  have : (Str.ofString "stuck" : Str) = Str.ofString "on" := by
    injection z with z
    injection z with z
    injection z
  exact absurd this (by decide)
theorem fin_ne : (Ans.fin "stuck") ≠ .fin "on" := fun z => by
  have : (Str.ofString "stuck" : Str) = "on" := by injection z
  exact absurd this (by decide)
/-- shows alone, two fuels -/
theorem shows_run {B : Nat} (hB : B ≤ 16000) (tk : List Int) {tv : List Val} (ht : OkVs B tv) (gt : ∀ v ∈ tv, GoodV v) : ∀ (cs : List Core) (k e : Nat), k + e ≤ 900 → (∀ c ∈ cs, c.sz ≤ B) →
    ∃ vs t vs2 t2, RunI tk tv k (cs.map Item.shw) (vs.map told ++ t) ∧ RunI tk tv (k + e) (cs.map Item.shw) (vs2.map told ++ t2) ∧ Told cs.length cs.length vs t ∧ Told cs.length cs.length vs2 t2 ∧ ((t ≠ [onD] ∧ vs2 = vs ∧ t2 = t) ∨ (t = [onD] ∧ ∃ ws, vs2 = vs ++ ws))
  | [], k, e, _, _ => ⟨[], [], [], [], .nil, .nil, ⟨gnil, .no, fun _ => rfl, fun h => absurd rfl h⟩, ⟨gnil, .no, fun _ => rfl, fun h => absurd rfl h⟩, .inl ⟨by simp, rfl, rfl⟩⟩
  | c :: cs, k, e, hk, hs => by
    have hc := hs c List.mem_cons_self
    have hcs : ∀ x ∈ cs, x.sz ≤ B := fun x hx => hs x (List.mem_cons_of_mem _ hx)
    have up : ∀ {v : Val} {vs : List Val} {t : List Dat}, GoodV v → Told cs.length cs.length vs t → Told (c :: cs).length (c :: cs).length (v :: vs) t := fun {v vs t} gv q =>
      ⟨fun w hw => (List.mem_cons.mp hw).elim (fun z => z ▸ gv) (q.good w), q.e, fun h => by rw [List.length_cons, List.length_cons, q.all h], fun h => by
        have := q.few h
        rw [List.length_cons, List.length_cons]
        omega⟩
    obtain ⟨r, k', d, h1, h2, h3, h4, gr, h5⟩ := core_run hB tk ht gt hc k (by omega)
    cases r with
    | vals us => exact absurd rfl (h5 us)
    | val v =>
      have h6 := more_fuel h1 e (by simp)
      obtain ⟨vs, t, vs2, t2, a1, a2, a3, a4, a5⟩ := shows_run hB tk ht gt cs k' e (by omega) hcs
      refine ⟨v :: vs, t, v :: vs2, t2, .shw h1 h3 a1, .shw h6 h3 a2, up gr a3, up gr a4, ?_⟩
      rcases a5 with ⟨p, rfl, rfl⟩ | ⟨p, ws, rfl⟩
      · exact .inl ⟨p, rfl, rfl⟩
      · exact .inr ⟨p, ws, rfl⟩
    | fin s =>
      have sng : ∀ {s : Str}, (s = "stuck" ∨ s = "on") → Told (c :: cs).length (c :: cs).length [] [.tup [.str s]] := fun {s} h =>
        ⟨gnil, by rcases h with rfl | rfl; exact .stuck; exact .on, fun h => (by cases h), fun _ => by rw [List.length_nil, List.length_cons]; omega⟩
      rcases gr with rfl | rfl
      · have h6 := more_fuel h1 e fin_ne
        exact ⟨[], [stuckD], [], [stuckD], .shwF h1 h3, .shwF h6 h3, sng (.inl rfl), sng (.inl rfl), .inl ⟨fun z => on_ne rfl (List.cons.inj z).1, rfl, rfl⟩⟩
      · obtain ⟨r2, k2, d2, b1, b2, b3, b4, b5, b6⟩ := core_run hB tk ht gt hc (k + e) hk
        cases r2 with
        | vals us => exact absurd rfl (b6 us)
        | val v =>
          obtain ⟨vs, t, vs2, t2, a1, a2, a3, a4, a5⟩ := shows_run hB tk ht gt cs k2 0 (by omega) hcs
          exact ⟨[], [onD], v :: vs, t, .shwF h1 h3, .shw b1 b3 a1, sng (.inr rfl), up b5 a3, .inr ⟨rfl, v :: vs, rfl⟩⟩
        | fin s2 => exact ⟨[], [onD], [], [.tup [.str s2]], .shwF h1 h3, .shwF b1 b3, sng (.inr rfl), sng b5, .inr ⟨rfl, [], rfl⟩⟩
structure Def where
  p : Int
  x : Str
  c : Core
def Def.item (d : Def) : Item := .dfn d.p d.x d.c
/-- defs, then shows, two fuels -/
theorem items_run {B : Nat} (hB : B ≤ 16000) : ∀ (fs : List Def) (cs : List Core) (tk : List Int) (tv : List Val) (k e : Nat), OkVs B tv → (∀ v ∈ tv, GoodV v) → tk.length + fs.length ≤ 1000 → k + e ≤ 900 → (∀ f ∈ fs, f.c.sz ≤ B) → (∀ c ∈ cs, c.sz ≤ B) →
    ∃ vs t vs2 t2, RunI tk tv k (fs.map Def.item ++ cs.map Item.shw) (vs.map told ++ t) ∧ RunI tk tv (k + e) (fs.map Def.item ++ cs.map Item.shw) (vs2.map told ++ t2) ∧ Told (max cs.length 1) cs.length vs t ∧ Told (max cs.length 1) cs.length vs2 t2 ∧ ((t ≠ [onD] ∧ vs2 = vs ∧ t2 = t) ∨ (t = [onD] ∧ ∃ ws, vs2 = vs ++ ws))
  | [], cs, tk, tv, k, e, ht, gt, _, hk, _, hs => by
    obtain ⟨vs, t, vs2, t2, a1, a2, a3, a4, a5⟩ := shows_run hB tk ht gt cs k e hk hs
    have up : ∀ {vs : List Val} {t : List Dat}, Told cs.length cs.length vs t → Told (max cs.length 1) cs.length vs t := fun q => ⟨q.good, q.e, q.all, fun h => by have := q.few h; omega⟩
    exact ⟨vs, t, vs2, t2, a1, a2, up a3, up a4, a5⟩
  | f :: fs, cs, tk, tv, k, e, ht, gt, hl, hk, hf, hs => by
    have hc := hf f List.mem_cons_self
    have hfs : ∀ x ∈ fs, x.c.sz ≤ B := fun x hx => hf x (List.mem_cons_of_mem _ hx)
    have hl' : tk.length + fs.length + 1 ≤ 1000 := by rw [List.length_cons] at hl; omega
    have plen : ∀ p, (pKs tk p).length ≤ tk.length + 1 := fun p => by
      have : ∀ ks : List Int, (pKs ks p).length ≤ ks.length + 1 := fun ks => by
        induction ks with
        | nil => simp [pKs]
        | cons a ks ih => unfold pKs; split <;> simp <;> omega
      exact this tk
    have ok' : ∀ {p : Int} {v : Val}, OkV B v → OkVs B (pVs tk tv p v) := fun {p v} hv w hw => (pVs_mem hw).elim (fun z => z ▸ hv) (ht w)
    have gd' : ∀ {p : Int} {v : Val}, GoodV v → ∀ w ∈ pVs tk tv p v, GoodV w := fun {p v} hv w hw => (pVs_mem hw).elim (fun z => z ▸ hv) (gt w)
    obtain ⟨r, k', d, h1, h2, h3, h4, gr, h5⟩ := core_run hB tk ht gt hc k (by omega)
    cases r with
    | vals us => exact absurd rfl (h5 us)
    | val v =>
      have h6 := more_fuel h1 e (by simp)
      obtain ⟨vs, t, vs2, t2, a1, a2, a3, a4, a5⟩ := items_run hB fs cs (pKs tk f.p) (pVs tk tv f.p v) k' e (ok' h4) (gd' gr) (by have := plen f.p; omega) (by omega) hfs hs
      exact ⟨vs, t, vs2, t2, .dfn h1 h3 (by omega) a1, .dfn h6 h3 (by omega) a2, a3, a4, a5⟩
    | fin s =>
      have sng : ∀ {s : Str}, (s = "stuck" ∨ s = "on") → Told (max cs.length 1) cs.length [] [.tup [.str s]] := fun {s} h =>
        ⟨gnil, by rcases h with rfl | rfl; exact .stuck; exact .on, fun h => (by cases h), fun _ => by rw [List.length_nil]; omega⟩
      rcases gr with rfl | rfl
      · have h6 := more_fuel h1 e fin_ne
        exact ⟨[], [stuckD], [], [stuckD], .dfnF h1 h3, .dfnF h6 h3, sng (.inl rfl), sng (.inl rfl), .inl ⟨fun z => on_ne rfl (List.cons.inj z).1, rfl, rfl⟩⟩
      · obtain ⟨r2, k2, d2, b1, b2, b3, b4, b5, b6⟩ := core_run hB tk ht gt hc (k + e) hk
        cases r2 with
        | vals us => exact absurd rfl (b6 us)
        | val v =>
          obtain ⟨vs, t, vs2, t2, a1, a2, a3, a4, a5⟩ := items_run hB fs cs (pKs tk f.p) (pVs tk tv f.p v) k2 0 (ok' b4) (gd' b5) (by have := plen f.p; omega) (by omega) hfs hs
          exact ⟨[], [onD], vs, t, .dfnF h1 h3, .dfn b1 b3 (by omega) a1, sng (.inr rfl), a3, .inr ⟨rfl, vs, rfl⟩⟩
        | fin s2 => exact ⟨[], [onD], [], [.tup [.str s2]], .dfnF h1 h3, .dfnF b1 b3, sng (.inr rfl), sng b5, .inr ⟨rfl, [], rfl⟩⟩
end Pu
set_option Elab.async false
set_option linter.all false
set_option maxRecDepth 100000
set_option maxHeartbeats 4000000
set_option autoImplicit false
namespace K65
open PySem PySem.Spec PyProof.Rows L2 Pu
local macro_rules | `(tactic| walk_at "rd") => `(tactic| first
  | exact .inl rd_add_int | exact .inl rd_I0 | exact .inl rd_eq_int | exact .inl rd_eq_str | exact .inl rd_B0 | exact .inl rd_eq_bl | exact .inl rd_ne_int | exact .inl rd_ne_str
  | exact .inl (rd_I (by first | decide | omega)) | exact .inl (rd_fdiv (by decide +kernel) (by decide +kernel))
  | exact .inl (rd_mulR ⟨by decide, by decide⟩) | exact .inl (rd_mulL ⟨by decide, by decide⟩)
  | exact .inl (rd_ixT rfl) | exact .inl (rd_ixL rfl) | walk_at "rd1")
local macro_rules | `(tactic| walk_at "pre") => `(tactic| first
  | exact .mk | exact .mk (by first | omega | assumption | decide) | walk_at "pre1")
local macro_rules | `(tactic| walk_at "call") => `(tactic| first
  | (apply CallIs.dat; walk_at "pre") | (apply CallIs.new; walk_at "pre"))
local macro_rules | `(tactic| walk_at "rc") => `(tactic| first
  | exact .inl rc_lenK | exact .inl rc_lenTK | exact .inl (rc_isTy rfl (by decide)) | exact .inl rc_all | exact .inl rc_any | exact .inl rc_sum | exact .inl rc_int_bl | exact .inl rc_abs
  | exact .inr ⟨_, rfl, rcn_listK⟩ | exact .inr ⟨_, rfl, rcn_listTK⟩ | walk_at "rc1")
local macro_rules | `(tactic| walk_at "ev") => `(tactic| first
  | exact evm_int | exact evm_str | exact evm_bl | exact evm_non | exact evm_ty | exact evm_cls | exact evm_var rfl | exact evm_own rfl | exact evm_ownD rfl
  | (apply evm_op; (walk_at "ev"); (walk_at "ev"); (walk_at "rd"))
  | (apply evm_tup; (walk_at "evs"); first | decide | (simp; done))
  | (apply evm_lst; (walk_at "evs"); first | decide | (simp; done))
  | (apply evm_call; (walk_at "evs"); (walk_at "call"))
  | (apply evm_cb; (walk_at "evs"); (walk_at "rc"))
  | (apply evm_and; (walk_at "ev"); (intro _; walk_at "ev"))
  | (apply evm_or; (walk_at "ev"); (intro _; walk_at "ev"))
  | (apply evm_not; (walk_at "ev"))
  | (apply EvN.toM; (walk_at "evn")) | walk_at "ev1")
local macro_rules | `(tactic| walk_at "evs") => `(tactic| first | exact evms_nil | (apply evms_cons; (walk_at "ev"); (walk_at "evs")))
local macro_rules | `(tactic| walk_at "evo") => `(tactic| first | exact evo_none | (apply evo_someM; (walk_at "ev")))
local macro_rules | `(tactic| walk_at "evn") => `(tactic| first
  | (apply evn_lstM; (walk_at "evs"); rfl; first | decide | (simp; done))
  | (apply evn_callM; (walk_at "evs"); rfl; walk_at "pre")
  | (apply evn_cbM; (walk_at "evs"); rfl; first | exact rcn_listK | exact rcn_listTK)
  | (apply evn_opM; (walk_at "ev"); (walk_at "ev"); rfl; walk_at "rdn")
  | (apply evn_slM; (walk_at "ev"); rfl; (walk_at "evo"); (walk_at "evo")) | walk_at "evn1")
local macro_rules | `(tactic| walk_at "evt") => `(tactic| first
  | (apply evt_testM; walk_at "ev")
  | (apply evt_BM; walk_at "ev")
  | (apply evt_not; walk_at "evt")
  | (apply evt_and; (walk_at "evt"); (intro _; walk_at "evt"))
  | (apply evt_or; (walk_at "evt"); (intro _; walk_at "evt"))
  | exact evt_yes)
local macro_rules | `(tactic| walk_at "set") => `(tactic| (apply ex_setM; (walk_at "ev"); rfl))
local macro_rules | `(tactic| walk_at "setN") => `(tactic| (apply ex_setN; (walk_at "evn")))
local macro_rules | `(tactic| walk_at "ret") => `(tactic| (apply ex_retM; (walk_at "ev"); rfl))
local macro_rules | `(tactic| walk_at "retN") => `(tactic| (apply ex_retN; (walk_at "evn")))
local macro_rules | `(tactic| walk_at "if") => `(tactic| (apply ex_ifs; (walk_at "evt")))

def topS (i : Nat) : Stmt := PySem.Challenge.pw_macrohouse_k65_whole_more_fuel.main.body.getD i (.Pass ⟨0, 0, 0, 0⟩)
abbrev S_Machine___init__ : Stmt := inClass (topS 1) 0
theorem sc_Machine___init__ : FnScope ["self", "fuel"] ["self", "fuel"] (defScope S_Machine___init__) := ⟨rfl, rfl, rfl, by decide +kernel, rfl, by decide +kernel, by decide +kernel⟩
abbrev S_Machine_come : Stmt := inClass (topS 1) 1
theorem sc_Machine_come : FnScope ["self", "core", "known", "kind", "other"] ["self", "core", "known"] (defScope S_Machine_come) := ⟨rfl, rfl, rfl, by decide +kernel, rfl, by decide +kernel, by decide +kernel⟩
abbrev S_Machine_operation : Stmt := inClass (topS 1) 2
theorem sc_Machine_operation : FnScope ["self", "name"] ["self", "name"] (defScope S_Machine_operation) := ⟨rfl, rfl, rfl, by decide +kernel, rfl, by decide +kernel, by decide +kernel⟩
abbrev S_Machine_look : Stmt := inClass (topS 1) 3
theorem sc_Machine_look : FnScope ["self", "place", "known"] ["self", "place", "known"] (defScope S_Machine_look) := ⟨rfl, rfl, rfl, by decide +kernel, rfl, by decide +kernel, by decide +kernel⟩
abbrev S_Machine_choose : Stmt := inClass (topS 1) 4
theorem sc_Machine_choose : FnScope ["self", "one", "other", "known", "value"] ["self", "one", "other", "known"] (defScope S_Machine_choose) := ⟨rfl, rfl, rfl, by decide +kernel, rfl, by decide +kernel, by decide +kernel⟩
abbrev S_Machine_call : Stmt := inClass (topS 1) 5
theorem sc_Machine_call : FnScope ["self", "many", "at", "things", "first"] ["self", "many"] (defScope S_Machine_call) := ⟨rfl, rfl, rfl, by decide +kernel, rfl, by decide +kernel, by decide +kernel⟩
abbrev S_Machine_enter : Stmt := inClass (topS 1) 6
theorem sc_Machine_enter : FnScope ["self", "first", "things", "known", "pair", "thing"] ["self", "first", "things"] (defScope S_Machine_enter) := ⟨rfl, rfl, rfl, by decide +kernel, rfl, by decide +kernel, by decide +kernel⟩
abbrev S_reckoned : Stmt := topS 2
theorem sc_reckoned : FnScope ["name", "one", "other"] ["name", "one", "other"] (defScope S_reckoned) := ⟨rfl, rfl, rfl, by decide +kernel, rfl, by decide +kernel, by decide +kernel⟩
abbrev S_value_of : Stmt := topS 3
theorem sc_value_of : FnScope ["machine", "core", "task"] ["machine", "core"] (defScope S_value_of) := ⟨rfl, rfl, rfl, by decide +kernel, rfl, by decide +kernel, by decide +kernel⟩
abbrev S_answer : Stmt := topS 4
theorem sc_answer : FnScope ["value"] ["value"] (defScope S_answer) := ⟨rfl, rfl, rfl, by decide +kernel, rfl, by decide +kernel, by decide +kernel⟩
abbrev S_run : Stmt := topS 5
theorem sc_run : FnScope ["items", "fuel", "machine", "told", "item", "value"] ["items", "fuel"] (defScope S_run) := ⟨rfl, rfl, rfl, by decide +kernel, rfl, by decide +kernel, by decide +kernel⟩
abbrev S__law_cell_at : Stmt := topS 7
theorem sc__law_cell_at : FnScope ["_law_script", "_law_k"] ["_law_script", "_law_k"] (defScope S__law_cell_at) := ⟨rfl, rfl, rfl, by decide +kernel, rfl, by decide +kernel, by decide +kernel⟩
abbrev S__law_draws : Stmt := topS 8
theorem sc__law_draws : FnScope ["_law_script", "_law_at", "_law_many_here", "_law_base", "_law_way", "_law_cell", "_law_draws_here", "_law_state", "_law_k"] ["_law_script", "_law_at", "_law_many_here", "_law_base"] (defScope S__law_draws) := ⟨rfl, rfl, rfl, by decide +kernel, rfl, by decide +kernel, by decide +kernel⟩
abbrev S__law_next : Stmt := topS 9
theorem sc__law_next : FnScope ["_law_draws_here"] ["_law_draws_here"] (defScope S__law_next) := ⟨rfl, rfl, rfl, by decide +kernel, rfl, by decide +kernel, by decide +kernel⟩
abbrev S__law_leaf : Stmt := topS 10
theorem sc__law_leaf : FnScope ["_law_cell", "_law_known", "_law_number"] ["_law_cell", "_law_known"] (defScope S__law_leaf) := ⟨rfl, rfl, rfl, by decide +kernel, rfl, by decide +kernel, by decide +kernel⟩
abbrev S__law_new : Stmt := topS 11
theorem sc__law_new : FnScope ["_law_count", "_law_many_here", "_law_first", "_law_j"] ["_law_count", "_law_many_here"] (defScope S__law_new) := ⟨rfl, rfl, rfl, by decide +kernel, rfl, by decide +kernel, by decide +kernel⟩
abbrev S__law_fn : Stmt := topS 12
theorem sc__law_fn : FnScope ["_law_draws_here", "_law_depth", "_law_known", "_law_tops", "_law_count", "_law_many_here", "_law_places", "_law_body", "_law_place"] ["_law_draws_here", "_law_depth", "_law_known", "_law_tops", "_law_count", "_law_many_here"] (defScope S__law_fn) := ⟨rfl, rfl, rfl, by decide +kernel, rfl, by decide +kernel, by decide +kernel⟩
abbrev S__law_many : Stmt := topS 13
theorem sc__law_many : FnScope ["_law_draws_here", "_law_depth", "_law_known", "_law_tops", "_law_count", "_law_many_here", "_law_parts", "_law_k"] ["_law_draws_here", "_law_depth", "_law_known", "_law_tops", "_law_count", "_law_many_here"] (defScope S__law_many) := ⟨rfl, rfl, rfl, by decide +kernel, rfl, by decide +kernel, by decide +kernel⟩
abbrev S__law_odd : Stmt := topS 14
theorem sc__law_odd : FnScope ["_law_cell", "_law_parts", "_law_kind"] ["_law_cell", "_law_parts"] (defScope S__law_odd) := ⟨rfl, rfl, rfl, by decide +kernel, rfl, by decide +kernel, by decide +kernel⟩
abbrev S__law_sum : Stmt := topS 15
theorem sc__law_sum : FnScope ["_law_draws_here", "_law_depth", "_law_known", "_law_tops", "_law_count", "_law_cell", "_law_kind", "_law_more", "_law_parts", "_law_name", "_law_first", "_law_top", "_law_places", "_law_inner", "_law_given"] ["_law_draws_here", "_law_depth", "_law_known", "_law_tops", "_law_count"] (defScope S__law_sum) := ⟨rfl, rfl, rfl, by decide +kernel, rfl, by decide +kernel, by decide +kernel⟩
abbrev S__law_items : Stmt := topS 16
theorem sc__law_items : FnScope ["_law_cells", "_law_head", "_law_count", "_law_draws_here", "_law_tops", "_law_place", "_law_items_here", "_law_top", "_law_maker", "_law_core"] ["_law_cells", "_law_head", "_law_count"] (defScope S__law_items) := ⟨rfl, rfl, rfl, by decide +kernel, rfl, by decide +kernel, by decide +kernel⟩
abbrev S__law_whole : Stmt := topS 17
theorem sc__law_whole : FnScope ["_law_found", "_law_shows", "_law_k", "_law_row"] ["_law_found", "_law_shows"] (defScope S__law_whole) := ⟨rfl, rfl, rfl, by decide +kernel, rfl, by decide +kernel, by decide +kernel⟩
abbrev S_law : Stmt := topS 18
theorem sc_law : FnScope ["_law_script", "_law_head", "_law_cells", "_law_items_here", "_law_shows", "_law_fuel", "_law_more", "_law_handed", "_law_found", "_law_other", "_law_item"] ["_law_script"] (defScope S_law) := ⟨rfl, rfl, rfl, by decide +kernel, rfl, by decide +kernel, by decide +kernel⟩
structure Tx (K : PySem.W.Frag) (mg : Str → Option Value) where
  a_Machine___init__ : Addr
  d_Machine___init__ : FuncData
  F_Machine___init__ : Fun K "__init__" "Machine.__init__" S_Machine___init__ a_Machine___init__ d_Machine___init__
  b_Machine___init__ : Binds K d_Machine___init__ ["self", "fuel"] []
  a_Machine_come : Addr
  d_Machine_come : FuncData
  F_Machine_come : Fun K "come" "Machine.come" S_Machine_come a_Machine_come d_Machine_come
  b_Machine_come : Binds K d_Machine_come ["self", "core", "known"] []
  a_Machine_operation : Addr
  d_Machine_operation : FuncData
  F_Machine_operation : Fun K "operation" "Machine.operation" S_Machine_operation a_Machine_operation d_Machine_operation
  b_Machine_operation : Binds K d_Machine_operation ["self", "name"] []
  a_Machine_look : Addr
  d_Machine_look : FuncData
  F_Machine_look : Fun K "look" "Machine.look" S_Machine_look a_Machine_look d_Machine_look
  b_Machine_look : Binds K d_Machine_look ["self", "place", "known"] []
  a_Machine_choose : Addr
  d_Machine_choose : FuncData
  F_Machine_choose : Fun K "choose" "Machine.choose" S_Machine_choose a_Machine_choose d_Machine_choose
  b_Machine_choose : Binds K d_Machine_choose ["self", "one", "other", "known"] []
  a_Machine_call : Addr
  d_Machine_call : FuncData
  F_Machine_call : Fun K "call" "Machine.call" S_Machine_call a_Machine_call d_Machine_call
  b_Machine_call : Binds K d_Machine_call ["self", "many"] []
  a_Machine_enter : Addr
  d_Machine_enter : FuncData
  F_Machine_enter : Fun K "enter" "Machine.enter" S_Machine_enter a_Machine_enter d_Machine_enter
  b_Machine_enter : Binds K d_Machine_enter ["self", "first", "things"] []
  a_reckoned : Addr
  d_reckoned : FuncData
  F_reckoned : Fun K "reckoned" "reckoned" S_reckoned a_reckoned d_reckoned
  b_reckoned : Binds K d_reckoned ["name", "one", "other"] []
  g_reckoned : mg "reckoned" = some (.ref a_reckoned)
  a_value_of : Addr
  d_value_of : FuncData
  F_value_of : Fun K "value_of" "value_of" S_value_of a_value_of d_value_of
  b_value_of : Binds K d_value_of ["machine", "core"] []
  g_value_of : mg "value_of" = some (.ref a_value_of)
  a_answer : Addr
  d_answer : FuncData
  F_answer : Fun K "answer" "answer" S_answer a_answer d_answer
  b_answer : Binds K d_answer ["value"] []
  g_answer : mg "answer" = some (.ref a_answer)
  a_run : Addr
  d_run : FuncData
  F_run : FunD K "run" "run" (defArgs S_run) (defBody S_run) (defScope S_run) [.int 200] [] a_run d_run
  b_run : Binds K d_run ["items", "fuel"] []
  g_run : mg "run" = some (.ref a_run)
  a__law_cell_at : Addr
  d__law_cell_at : FuncData
  F__law_cell_at : Fun K "_law_cell_at" "_law_cell_at" S__law_cell_at a__law_cell_at d__law_cell_at
  b__law_cell_at : Binds K d__law_cell_at ["_law_script", "_law_k"] []
  g__law_cell_at : mg "_law_cell_at" = some (.ref a__law_cell_at)
  a__law_draws : Addr
  d__law_draws : FuncData
  F__law_draws : Fun K "_law_draws" "_law_draws" S__law_draws a__law_draws d__law_draws
  b__law_draws : Binds K d__law_draws ["_law_script", "_law_at", "_law_many_here", "_law_base"] []
  g__law_draws : mg "_law_draws" = some (.ref a__law_draws)
  a__law_next : Addr
  d__law_next : FuncData
  F__law_next : Fun K "_law_next" "_law_next" S__law_next a__law_next d__law_next
  b__law_next : Binds K d__law_next ["_law_draws_here"] []
  g__law_next : mg "_law_next" = some (.ref a__law_next)
  a__law_leaf : Addr
  d__law_leaf : FuncData
  F__law_leaf : Fun K "_law_leaf" "_law_leaf" S__law_leaf a__law_leaf d__law_leaf
  b__law_leaf : Binds K d__law_leaf ["_law_cell", "_law_known"] []
  g__law_leaf : mg "_law_leaf" = some (.ref a__law_leaf)
  a__law_new : Addr
  d__law_new : FuncData
  F__law_new : Fun K "_law_new" "_law_new" S__law_new a__law_new d__law_new
  b__law_new : Binds K d__law_new ["_law_count", "_law_many_here"] []
  g__law_new : mg "_law_new" = some (.ref a__law_new)
  a__law_fn : Addr
  d__law_fn : FuncData
  F__law_fn : Fun K "_law_fn" "_law_fn" S__law_fn a__law_fn d__law_fn
  b__law_fn : Binds K d__law_fn ["_law_draws_here", "_law_depth", "_law_known", "_law_tops", "_law_count", "_law_many_here"] []
  g__law_fn : mg "_law_fn" = some (.ref a__law_fn)
  a__law_many : Addr
  d__law_many : FuncData
  F__law_many : Fun K "_law_many" "_law_many" S__law_many a__law_many d__law_many
  b__law_many : Binds K d__law_many ["_law_draws_here", "_law_depth", "_law_known", "_law_tops", "_law_count", "_law_many_here"] []
  g__law_many : mg "_law_many" = some (.ref a__law_many)
  a__law_odd : Addr
  d__law_odd : FuncData
  F__law_odd : Fun K "_law_odd" "_law_odd" S__law_odd a__law_odd d__law_odd
  b__law_odd : Binds K d__law_odd ["_law_cell", "_law_parts"] []
  g__law_odd : mg "_law_odd" = some (.ref a__law_odd)
  a__law_sum : Addr
  d__law_sum : FuncData
  F__law_sum : Fun K "_law_sum" "_law_sum" S__law_sum a__law_sum d__law_sum
  b__law_sum : Binds K d__law_sum ["_law_draws_here", "_law_depth", "_law_known", "_law_tops", "_law_count"] []
  g__law_sum : mg "_law_sum" = some (.ref a__law_sum)
  a__law_items : Addr
  d__law_items : FuncData
  F__law_items : Fun K "_law_items" "_law_items" S__law_items a__law_items d__law_items
  b__law_items : Binds K d__law_items ["_law_cells", "_law_head", "_law_count"] []
  g__law_items : mg "_law_items" = some (.ref a__law_items)
  a__law_whole : Addr
  d__law_whole : FuncData
  F__law_whole : Fun K "_law_whole" "_law_whole" S__law_whole a__law_whole d__law_whole
  b__law_whole : Binds K d__law_whole ["_law_found", "_law_shows"] []
  g__law_whole : mg "_law_whole" = some (.ref a__law_whole)
  a_law : Addr
  d_law : FuncData
  F_law : Fun K "law" "law" S_law a_law d_law
  b_law : Binds K d_law ["_law_script"] []
  g_law : mg "law" = some (.ref a_law)
  C_Machine : Addr
  g_Machine : mg "Machine" = some (.ref C_Machine)
  c_Machine : Cls K C_Machine
  M_Machine : Mk K C_Machine a_Machine___init__
  m_Machine_come : Meth K C_Machine "come" a_Machine_come
  m_Machine_operation : Meth K C_Machine "operation" a_Machine_operation
  m_Machine_look : Meth K C_Machine "look" a_Machine_look
  m_Machine_choose : Meth K C_Machine "choose" a_Machine_choose
  m_Machine_call : Meth K C_Machine "call" a_Machine_call
  m_Machine_enter : Meth K C_Machine "enter" a_Machine_enter
  na_Machine_tops : NoAttr K C_Machine "tops"
  na_Machine_left : NoAttr K C_Machine "left"
  na_Machine_todo : NoAttr K C_Machine "todo"
  na_Machine_found : NoAttr K C_Machine "found"
  na_Machine_ended : NoAttr K C_Machine "ended"
  n_bool : mg "bool" = none
  n_dict : mg "dict" = none
  n_int : mg "int" = none
  n_isinstance : mg "isinstance" = none
  n_len : mg "len" = none
  n_list : mg "list" = none
  n_max : mg "max" = none
  n_range : mg "range" = none
  n_reversed : mg "reversed" = none
  n_tuple : mg "tuple" = none
  n_zip : mg "zip" = none
/-! ### the law's own defs -/
def cl (xs : List Int) (k : Nat) : Int := xs.getD k 0
structure St where
  cnt : Int
  ds : List Int
def St.tl (s : St) : St := ⟨s.cnt, s.ds.tail⟩
def St.add (s : St) (m : Int) : St := ⟨s.cnt + m, s.ds⟩
def next (s : St) : Int := s.ds.headD 0
def leafC (c : Int) (ks : List Int) : Core :=
  if ks ≠ [] ∧ 0 < c % 3 then .seen (ks.getD (c / 3 % ks.length).toNat 0)
  else .num (let n := if c / 6 % 3 = 1 then c / 18 % 10 ^ 18 % 3 else c / 18 % 10 ^ 18
    if c / 3 % 2 = 1 then 0 - n else n)
def newL (c m : Int) : List Int := (List.range m.toNat).map fun (j : Nat) => c + (0 + (j : Int))
def X3 : Str := "xyz"
def nmL (p : Int) : Str := ⟨#[X3.cps.toList.getD (p % 3).toNat 0]⟩
def manyC (f : St → Core × St) : Nat → St → List Core × St
  | 0, s => ([], s)
  | n + 1, s =>
    let r := manyC f n s
    let q := f r.2
    (r.1 ++ [q.1], q.2)
def fnC (f : List Int → St → Core × St) (ks : List Int) (m : Int) (s : St) : Core × St :=
  let ps := newL s.cnt m
  let q := f (ks ++ ps) (s.add m)
  (.fn (ps.map fun p => (p, nmL p)) q.1, q.2)
def odd3 (c : Int) : Str := (["adds", "x", "les"] : List Str).getD (c % 3).toNat ""
def opN (c : Int) : Str := (["add", "sub", "less"] : List Str).getD (c % 3).toNat ""
def opI (c : Int) : Str := (["add", "sub", "less"] : List Str).getD c.toNat ""
def oddC (c : Int) (a b : Core) : Core :=
  if c % 5 = 0 then .free (odd3 (c / 5))
  else if c % 5 = 1 then .call a [b]
  else if c % 5 = 2 then .call (.free "add") [a]
  else if c % 5 = 3 then .pick (.free "less") a b
  else .free (opN (c / 5))
def c0 : Core := .num 0
def sumC : Nat → List Int → List (Int × Int) → St → Core × St
  | 0, ks, _, s => (leafC (next s / 10) ks, s.tl)
  | d + 1, ks, tops, s =>
    let kind := next s % 10
    let more := next s / 10
    let one := sumC d ks tops
    if kind < 2 ∨ (kind = 7 ∧ tops = []) then (leafC more ks, s.tl)
    else if kind < 5 then (.call (.free (opI (kind - 2))) (manyC one 2 s.tl).1, (manyC one 2 s.tl).2)
    else if kind = 5 then (.pick ((manyC one 3 s.tl).1.getD 0 c0) ((manyC one 3 s.tl).1.getD 1 c0) ((manyC one 3 s.tl).1.getD 2 c0), (manyC one 3 s.tl).2)
    else if kind = 6 then
      let f := fnC (fun k s => sumC d k tops s) ks (more % 3) s.tl
      (.call f.1 (manyC one (more % 3).toNat f.2).1, (manyC one (more % 3).toNat f.2).2)
    else if kind = 7 then
      let t := tops.getD (more % tops.length).toNat (0, 0)
      (.call (.seen t.1) (manyC one t.2.toNat s.tl).1, (manyC one t.2.toNat s.tl).2)
    else if kind = 8 then
      let ps := newL s.cnt 1
      let f := fnC (fun k s => sumC d k tops s) (ks ++ ps) 1 (s.tl.add 1)
      let g := manyC one 2 f.2
      (.call (.call (.fn [(ps.getD 0 0, "x")] f.1) (g.1.take 1)) (g.1.drop 1), g.2)
    else
      let q := manyC one 2 s.tl
      if more % 4 = 0 then (oddC (more / 4) (q.1.getD 0 c0) (q.1.getD 1 c0), q.2)
      else (.call (.free "add") q.1, q.2)
def defC (hd : Int) (tops : List (Int × Int)) (t : Int × Int) (s : St) : Core × St :=
  let one := fun k s => sumC 3 k tops s
  if (hd + t.1) % 2 = 1 then
    let p := (newL s.cnt 1).getD 0 0
    let f := fnC one [p] t.2 (s.add 1)
    (.call (.fn [(p, "x")] f.1) [.num (hd % 10 ^ 18)], f.2)
  else fnC one [] t.2 s
/-! how great, how deep -/
def szB : Nat → Nat
  | 0 => 1
  | d + 1 => 3 * szB d + 20
structure Fit (d : Nat) (c : Core) : Prop where
  sz : c.sz ≤ szB d
  pl : PL (6 * d + 2) c
theorem Fit.pl' {d : Nat} {c : Core} (h : Fit d c) {n : Nat} (hn : 6 * d + 2 ≤ n) : PL n c := h.pl.le hn
theorem tl_len (s : St) : s.tl.ds.length = s.ds.length - 1 := by simp [St.tl]
theorem leaf_sz (c : Int) (ks : List Int) : (leafC c ks).sz = 1 ∧ ∀ k, PL (k + 1) (leafC c ks) := by
  unfold leafC
  split
  · exact ⟨by simp [Core.sz], fun k => pl_seen⟩
  · exact ⟨by simp [Core.sz], fun k => pl_num⟩
theorem many_len (f : St → Core × St) : ∀ n s, (manyC f n s).1.length = n
  | 0, s => rfl
  | n + 1, s => by
    unfold manyC
    dsimp only
    rw [List.length_append, many_len f n s]
    rfl
theorem many_fit {f : St → Core × St} {d : Nat} (h : ∀ s, Fit d (f s).1 ∧ (f s).2.ds.length ≤ s.ds.length) : ∀ n s, (∀ x ∈ (manyC f n s).1, Fit d x) ∧ szs (manyC f n s).1 ≤ n * (szB d + 1) ∧ (manyC f n s).2.ds.length ≤ s.ds.length
  | 0, s => ⟨fun x hx => (by cases hx), Nat.zero_le _, Nat.le_refl _⟩
  | n + 1, s => by
    obtain ⟨a, b, c⟩ := many_fit h n s
    obtain ⟨e, g⟩ := h (manyC f n s).2
    have sz_app : ∀ (xs : List Core) (y : Core), szs (xs ++ [y]) = szs xs + y.sz + 1 := fun xs y => by
      induction xs with
      | nil => simp [szs]
      | cons x xs ih => simp only [List.cons_append, szs, ih]; omega
    unfold manyC
    dsimp only
    refine ⟨fun x hx => ?_, ?_, by omega⟩
    · rcases List.mem_append.mp hx with hx | hx
      · exact a x hx
      · rw [List.mem_singleton.mp hx]; exact e
    · rw [sz_app, Nat.add_mul]
      have := e.sz
      omega
theorem fst_ok (p : Int) : PyData.strOk (nmL p) = true := by
  have h1 := Int.emod_nonneg p (show (3 : Int) ≠ 0 by decide)
  have h2 := Int.emod_lt_of_pos p (show (0 : Int) < 3 by decide)
  unfold nmL
  generalize p % 3 = j at *
  have : j = 0 ∨ j = 1 ∨ j = 2 := by omega
  rcases this with rfl | rfl | rfl <;> decide +kernel
theorem fn_fit {f : List Int → St → Core × St} {d : Nat} (h : ∀ k s, Fit d (f k s).1 ∧ (f k s).2.ds.length ≤ s.ds.length) (ks : List Int) {m : Int} (hm : m < 4) (s : St) :
    (fnC f ks m s).1.sz ≤ szB d + 5 ∧ PL (6 * d + 3) (fnC f ks m s).1 ∧ (fnC f ks m s).2.ds.length ≤ s.ds.length := by
  obtain ⟨a, b⟩ := h (ks ++ newL s.cnt m) (s.add m)
  unfold fnC
  dsimp only
  refine ⟨?_, ?_, b⟩
  · rw [Core.sz, List.length_map]
    have := a.sz
    have : (newL s.cnt m).length ≤ 3 := by unfold newL; simp; omega
    omega
  · refine pl_fn (k := 6 * d) a.pl fun p hp => ?_
    obtain ⟨q, _, rfl⟩ := List.mem_map.mp hp
    exact fst_ok q
theorem ops_ok : ∀ j : Nat, PyData.strOk ((["add", "sub", "less"] : List Str).getD j "") = true
  | 0 => by decide +kernel
  | 1 => by decide +kernel
  | 2 => by decide +kernel
  | j + 3 => by
    have : (["add", "sub", "less"] : List Str).getD (j + 3) "" = "" := rfl
    rw [this]
    decide +kernel
theorem odds_ok : ∀ j : Nat, PyData.strOk ((["adds", "x", "les"] : List Str).getD j "") = true
  | 0 => by decide +kernel
  | 1 => by decide +kernel
  | 2 => by decide +kernel
  | j + 3 => by
    have : (["adds", "x", "les"] : List Str).getD (j + 3) "" = "" := rfl
    rw [this]
    decide +kernel
theorem sum_fit : ∀ (d : Nat) (ks : List Int) (tops : List (Int × Int)) (s : St), (∀ t ∈ tops, 0 ≤ t.2 ∧ t.2 < 3) → Fit d (sumC d ks tops s).1 ∧ (sumC d ks tops s).2.ds.length ≤ s.ds.length - 1
  | 0, ks, tops, s, _ => by
    unfold sumC
    dsimp only
    obtain ⟨a, b⟩ := leaf_sz (next s / 10) ks
    exact ⟨⟨by rw [a]; exact Nat.le_refl _, b _⟩, by rw [tl_len]; exact Nat.le_refl _⟩
  | d + 1, ks, tops, s, ht => by
    have ih : ∀ k s, Fit d (sumC d k tops s).1 ∧ (sumC d k tops s).2.ds.length ≤ s.ds.length := fun k s => by
      obtain ⟨a, b⟩ := sum_fit d k tops s ht
      exact ⟨a, by omega⟩
    have hL := tl_len s
    have hS : szB (d + 1) = 3 * szB d + 20 := rfl
    have leaf : ∀ c, Fit (d + 1) (leafC c ks) := fun c => by
      obtain ⟨a, b⟩ := leaf_sz c ks
      exact ⟨by rw [a, hS]; omega, b _⟩
    have cal : ∀ {f : Core} {xs : List Core}, f.sz ≤ 2 * szB d + 6 → False ∨ True := fun _ => .inr trivial
    have gd : ∀ {n : Nat} (s : St) (j : Nat), j < n → Fit d ((manyC (sumC d ks tops) n s).1.getD j c0) := fun {n} s j hj => by
      have hlen := many_len (sumC d ks tops) n s
      rw [List.getD, List.getElem?_eq_getElem (by omega)]
      exact (many_fit (ih ks) n s).1 _ (List.getElem_mem _)
    unfold sumC
    dsimp only
    generalize next s / 10 = more
    generalize next s % 10 = kind
    split
    · exact ⟨leaf _, by rw [tl_len]; exact Nat.le_refl _⟩
    split
    · obtain ⟨a, b, c⟩ := many_fit (ih ks) 2 s.tl
      have hlen := many_len (sumC d ks tops) 2 s.tl
      refine ⟨⟨?_, ?_⟩, by dsimp only; omega⟩
      · rw [Core.sz, Core.sz, hS]; omega
      · exact (pl_call (k := 6 * d + 2) (pl_free (ops_ok _)) fun x hx => (a x hx).pl).le (by omega)
    split
    · obtain ⟨a, b, c⟩ := many_fit (ih ks) 3 s.tl
      have g0 := gd (n := 3) s.tl 0 (by omega)
      have g1 := gd (n := 3) s.tl 1 (by omega)
      have g2 := gd (n := 3) s.tl 2 (by omega)
      refine ⟨⟨?_, ?_⟩, by dsimp only; omega⟩
      · rw [Core.sz, hS]
        have := g0.sz
        have := g1.sz
        have := g2.sz
        omega
      · exact (pl_pick g0.pl g1.pl g2.pl).le (by omega)
    split
    · have m1 := Int.emod_nonneg more (show (3 : Int) ≠ 0 by decide)
      have m2 := Int.emod_lt_of_pos more (show (0 : Int) < 3 by decide)
      obtain ⟨f1, f2, f3⟩ := fn_fit (f := fun k s => sumC d k tops s) ih ks (m := more % 3) (by omega) s.tl
      generalize fnC (fun k s => sumC d k tops s) ks (more % 3) s.tl = F at *
      obtain ⟨a, b, c⟩ := many_fit (ih ks) (more % 3).toNat F.2
      have hlen := many_len (sumC d ks tops) (more % 3).toNat F.2
      have hm : (more % 3).toNat ≤ 2 := by omega
      have hmm : (more % 3).toNat * (szB d + 1) ≤ 2 * (szB d + 1) := Nat.mul_le_mul_right _ hm
      refine ⟨⟨?_, ?_⟩, by dsimp only; omega⟩
      · rw [Core.sz, hS]; omega
      · exact (pl_call (k := 6 * d + 3) f2 fun x hx => (a x hx).pl' (by omega)).le (by omega)
    split
    · have hm : (tops.getD (more % tops.length).toNat (0, 0)).2.toNat ≤ 2 := by
        rw [List.getD]
        cases e : tops[(more % (tops.length : Int)).toNat]? with
        | none => simp
        | some t =>
          have := ht t (List.mem_of_getElem? e)
          show t.2.toNat ≤ 2
          omega
      generalize tops.getD (more % tops.length).toNat (0, 0) = t at *
      obtain ⟨a, b, c⟩ := many_fit (ih ks) t.2.toNat s.tl
      have hlen := many_len (sumC d ks tops) t.2.toNat s.tl
      have hmm : t.2.toNat * (szB d + 1) ≤ 2 * (szB d + 1) := Nat.mul_le_mul_right _ hm
      refine ⟨⟨?_, ?_⟩, by dsimp only; omega⟩
      · rw [Core.sz, Core.sz, hS]; omega
      · exact (pl_call (k := 6 * d + 2) pl_seen fun x hx => (a x hx).pl).le (by omega)
    split
    · obtain ⟨f1, f2, f3⟩ := fn_fit (f := fun k s => sumC d k tops s) ih (ks ++ newL s.cnt 1) (m := 1) (by omega) (s.tl.add 1)
      generalize fnC (fun k s => sumC d k tops s) (ks ++ newL s.cnt 1) 1 (s.tl.add 1) = F at *
      have f3 : F.2.ds.length ≤ s.tl.ds.length := f3
      obtain ⟨a, b, c⟩ := many_fit (ih ks) 2 F.2
      have hlen := many_len (sumC d ks tops) 2 F.2
      generalize manyC (sumC d ks tops) 2 F.2 = g at *
      obtain ⟨xs, s2⟩ := g
      match xs, hlen with
      | [x, y], _ =>
        have hx := a x (by simp)
        have hy := a y (by simp)
        refine ⟨⟨?_, ?_⟩, by have : s2.ds.length ≤ F.2.ds.length := c; show s2.ds.length ≤ _; omega⟩
        · show (Core.call (.call (.fn [(_, _)] F.1) [x]) [y]).sz ≤ _
          have := hx.sz
          have := hy.sz
          simp only [Core.sz, szs, List.length_cons, List.length_nil, hS]
          omega
        · show PL _ (Core.call (.call (.fn [(_, _)] F.1) [x]) [y])
          exact (pl_call (k := 6 * d + 6) ((pl_call (k := 6 * d + 4) ((pl_fn (k := 6 * d + 1) f2 (by intro p hp; rw [List.mem_singleton.mp hp]; show PyData.strOk "x" = true; decide +kernel))) (fun z hz => by rw [List.mem_singleton.mp hz]; exact hx.pl' (by omega)))) (fun z hz => by rw [List.mem_singleton.mp hz]; exact hy.pl' (by omega))).le (by omega)
    · obtain ⟨a, b, c⟩ := many_fit (ih ks) 2 s.tl
      have hlen := many_len (sumC d ks tops) 2 s.tl
      have g0 := gd (n := 2) s.tl 0 (by omega)
      have g1 := gd (n := 2) s.tl 1 (by omega)
      split
      · refine ⟨?_, by dsimp only; omega⟩
        show Fit (d + 1) (oddC _ _ _)
        generalize (manyC (sumC d ks tops) 2 s.tl).1.getD 0 c0 = x at *
        generalize (manyC (sumC d ks tops) 2 s.tl).1.getD 1 c0 = y at *
        have := g0.sz
        have := g1.sz
        unfold oddC
        split
        · exact ⟨by rw [Core.sz, hS]; omega, pl_free (odds_ok _)⟩
        split
        · exact ⟨by simp only [Core.sz, szs, List.length_cons, List.length_nil, hS]; omega, (pl_call (k := 6 * d + 2) g0.pl fun z hz => by rw [List.mem_singleton.mp hz]; exact g1.pl).le (by omega)⟩
        split
        · exact ⟨by simp only [Core.sz, szs, List.length_cons, List.length_nil, hS]; omega, (pl_call (k := 6 * d + 2) (pl_free (by decide +kernel)) fun z hz => by rw [List.mem_singleton.mp hz]; exact g0.pl).le (by omega)⟩
        split
        · exact ⟨by simp only [Core.sz, hS]; omega, (pl_pick (k := 6 * d + 2) (pl_free (by decide +kernel)) g0.pl g1.pl).le (by omega)⟩
        · exact ⟨by rw [Core.sz, hS]; omega, pl_free (ops_ok _)⟩
      · refine ⟨⟨?_, ?_⟩, by dsimp only; omega⟩
        · rw [Core.sz, Core.sz, hS]; omega
        · exact (pl_call (k := 6 * d + 2) (pl_free (by decide +kernel)) fun x hx => (a x hx).pl).le (by omega)
theorem def_fit {hd : Int} {tops : List (Int × Int)} (ht : ∀ t ∈ tops, 0 ≤ t.2 ∧ t.2 < 3) {t : Int × Int} (h : t ∈ tops) (s : St) : (defC hd tops t s).1.sz ≤ 500 ∧ PL 26 (defC hd tops t s).1 ∧ (defC hd tops t s).2.ds.length ≤ s.ds.length := by
  have ih : ∀ k s, Fit 3 (sumC 3 k tops s).1 ∧ (sumC 3 k tops s).2.ds.length ≤ s.ds.length := fun k s => by
    obtain ⟨a, b⟩ := sum_fit 3 k tops s ht
    exact ⟨a, by omega⟩
  have h3 : szB 3 = 287 := rfl
  have := ht t h
  unfold defC
  dsimp only
  split
  · obtain ⟨f1, f2, f3⟩ := fn_fit (f := fun k s => sumC 3 k tops s) ih [(newL s.cnt 1).getD 0 0] (m := t.2) (by omega) (s.add 1)
    refine ⟨?_, ?_, f3⟩
    · simp only [Core.sz, szs, List.length_cons, List.length_nil]
      omega
    · exact (pl_call (k := 22) (pl_fn (k := 19) f2 (by intro p hp; rw [List.mem_singleton.mp hp]; show PyData.strOk "x" = true; decide +kernel)) (fun z hz => by rw [List.mem_singleton.mp hz]; exact pl_num)).le (by omega)
  · obtain ⟨f1, f2, f3⟩ := fn_fit (f := fun k s => sumC 3 k tops s) ih [] (m := t.2) (by omega) s
    exact ⟨by omega, f2.le (by omega), f3⟩
/-! ### the walks -/
def cst (s : St) : List Cell := [.lst [.dat (.int s.cnt)], .lst ((s.ds.reverse.map Dat.int).map Vl.dat)]
def topD (t : Int × Int) : Dat := .tup [.int t.1, .int t.2]
structure Tops (tops : List (Int × Int)) : Prop where
  few : tops.length < 100
  ok : ∀ t ∈ tops, 0 ≤ t.2 ∧ t.2 < 3
inductive P__law_cell_at : List Dat → Res → Prop
  | mk {xs : List Int} {k : Int} (h : 0 ≤ k) : P__law_cell_at [.lst (xs.map Dat.int), .int k] (.dat (.int (cl xs k.toNat)))
inductive P__law_next : PX
  | mk {s : St} : P__law_next [.loc 1] (cst s) (Is (.dat (.int (next s))) (cst s.tl))
inductive P__law_leaf : List Dat → Res → Prop
  | mk {c : Int} {ks : List Int} (h : ks.length < 2000) : P__law_leaf [.int c, .lst (ks.map Dat.int)] (.dat (leafC c ks).dat)
inductive P__law_new : PX
  | mk {s : St} {m : Int} (h : 0 ≤ m ∧ m < 100) : P__law_new [.loc 0, .dat (.int m)] (cst s) (Is (.dat (.lst ((newL s.cnt m).map Dat.int))) (cst (s.add m)))
inductive P__law_odd : List Dat → Res → Prop
  | mk {c : Int} {a b : Core} : P__law_odd [.int c, .tup [a.dat, b.dat]] (.dat (oddC c a b).dat)
inductive P__law_sum (n : Nat) : PX
  | mk {s : St} {d : Nat} {ks : List Int} {tops : List (Int × Int)} (h : d < n) (hk : ks.length + 10 * d < 1000) (ht : Tops tops) :
    P__law_sum n [.loc 1, .dat (.int (d : Int)), .dat (.lst (ks.map Dat.int)), .dat (.lst (tops.map topD)), .loc 0] (cst s) (Is (.dat (sumC d ks tops s).1.dat) (cst (sumC d ks tops s).2))
inductive P__law_many (n : Nat) : PX
  | mk {s : St} {d : Nat} {ks : List Int} {tops : List (Int × Int)} {m : Int} (h : d < n) (hk : ks.length + 10 * d < 1000) (ht : Tops tops) (hm : 0 ≤ m ∧ m < 100) :
    P__law_many n [.loc 1, .dat (.int (d : Int)), .dat (.lst (ks.map Dat.int)), .dat (.lst (tops.map topD)), .loc 0, .dat (.int m)] (cst s) (Is (.dat (.tup ((manyC (sumC d ks tops) m.toNat s).1.map Core.dat))) (cst (manyC (sumC d ks tops) m.toNat s).2))
inductive P__law_fn (n : Nat) : PX
  | mk {s : St} {d : Nat} {ks : List Int} {tops : List (Int × Int)} {m : Int} (h : d < n) (hk : ks.length + 10 * d + 5 < 1000) (ht : Tops tops) (hm : 0 ≤ m ∧ m < 4) :
    P__law_fn n [.loc 1, .dat (.int (d : Int)), .dat (.lst (ks.map Dat.int)), .dat (.lst (tops.map topD)), .loc 0, .dat (.int m)] (cst s) (Is (.dat (fnC (fun k s => sumC d k tops s) ks m s).1.dat) (cst (fnC (fun k s => sumC d k tops s) ks m s).2))
theorem tops_pl (tops : List (Int × Int)) : (Dat.lst (tops.map topD)).plain 3 = true := lst_pl fun d hd => by
  obtain ⟨t, _, rfl⟩ := List.mem_map.mp hd
  rfl
theorem x3_at (j : Int) : atI X3.cps.toList (j % 3) = some (X3.cps.toList.getD (j % 3).toNat 0) := by
  have h1 := Int.emod_nonneg j (show (3 : Int) ≠ 0 by decide)
  have h2 := Int.emod_lt_of_pos j (show (0 : Int) < 3 by decide)
  have hl : X3.cps.toList.length = 3 := by decide +kernel
  have e : j % 3 = (((j % 3).toNat : Nat) : Int) := by omega
  rw [e]
  refine atI_nat ?_
  rw [Int.toNat_natCast, List.getD, List.getElem?_eq_getElem (by omega)]
  rfl
theorem strs_at {xs : List Str} {k : Int} (h0 : 0 ≤ k) (h : k < xs.length) : atI (xs.map Dat.str) k = some (.str (xs.getD k.toNat "")) :=
  atI_map h0 (by
    have : k.toNat < xs.length := by omega
    rw [List.getD, List.getElem?_eq_getElem this]
    rfl)
theorem lg_small {j : Int} (h : 0 < j) (h2 : j < 1000) : j.natAbs.log2 < 9000 := by
  rw [Nat.log2_lt (by omega)]
  exact Nat.lt_trans (m := 2 ^ 10) (by omega) (Nat.pow_lt_pow_right (by decide) (by decide))
section
variable {P : Program} {w : World} {K : PySem.W.Frag} {mg : Str → Option Value} {base : Heap}
/-! ### the machine's defs -/
theorem mc_of (T : Tx K mg) : MC K T.C_Machine := ⟨T.c_Machine, T.na_Machine_tops, T.na_Machine_left, T.na_Machine_todo, T.na_Machine_found, T.na_Machine_ended⟩
theorem ok_Machine___init__ (T : Tx K mg) : FnOk P w K mg base CX0 1 T.a_Machine___init__ T.d_Machine___init__ ["self", "fuel"] (spX K (P_Machine___init__ T.C_Machine)) := by
  refine ok_defX (rule_fun T.F_Machine___init__) sc_Machine___init__ (fun xs ω Ψ h => by cases h <;> rfl) fun cdv A outer s H E hr => ⟨_, (pss_cons (ps_fld (pv 0) pe_dnewK rfl)
      (pss_cons (ps_fld (pv 0) (pv 1) rfl)
      (pss_cons (ps_fld (pv 0) (pe_lst pa_nil) rfl)
      (pss_cons (ps_fld (pv 0) (pe_lst pa_nil) rfl)
      (pss_one (ps_fld (pv 0) pe_non rfl)))))), fun xs ω Ψ h => ?_⟩
  have hu := hu_of hr
  try dsimp only [L2.Cx.nox, L2.Cx.wish, L2.cxOf]
  cases h with
  | @mk ω l n h0 =>
  have M := mc_of T
  show ExS K _ ⟨[.loc l, .dat (.int n)], ω⟩ _
  have hl := lt_of h0
  refine ex_fld (evy_newD (Ψ := fun x e => x = .loc ω.length ∧ e = (Sta.mk [.loc l, .dat (.int n)] ω).push (.dic [])) evnd_new ⟨rfl, rfl⟩) fun x e p => ?_
  obtain ⟨rfl, rfl⟩ := p
  refine ⟨l, T.C_Machine, [], evl_var rfl, pre_some h0, M.c, M.tops, by simp, ?_⟩
  show ExS K _ ⟨[.loc l, .dat (.int n)], (ω ++ [Cell.dic []]).set l (.ins T.C_Machine (mF1 ω.length))⟩ _
  have q1 : ∃ ω1, (ω ++ [Cell.dic []]).set l (.ins T.C_Machine (mF1 ω.length)) = ω1 ∧ ω1[l]? = some (.ins T.C_Machine (mF1 ω.length)) ∧ ω1[ω.length]? = some (.dic []) ∧ ω1.length = ω.length + 1 :=
    ⟨_, rfl, set_at (pre_some h0), by rw [set_off (by omega)]; exact at_end, by simp⟩
  obtain ⟨ω1, e1, s1, t1, l1⟩ := q1
  rw [e1]
  refine ex_fld (evy_d (Ψ := fun x e => x = .dat (.int n) ∧ e = ⟨[.loc l, .dat (.int n)], ω1⟩) (evd_var rfl) ⟨rfl, rfl⟩) fun x e p => ?_
  obtain ⟨rfl, rfl⟩ := p
  refine ⟨l, T.C_Machine, _, evl_var rfl, s1, M.c, M.left, by simp [mF1], ?_⟩
  rw [mF_2]
  show ExS K _ ⟨[.loc l, .dat (.int n)], ω1.set l (.ins T.C_Machine (mF2 ω.length n))⟩ _
  have q2 : ∃ ω2, ω1.set l (.ins T.C_Machine (mF2 ω.length n)) = ω2 ∧ ω2[l]? = some (.ins T.C_Machine (mF2 ω.length n)) ∧ ω2[ω.length]? = some (.dic []) ∧ ω2.length = ω.length + 1 :=
    ⟨_, rfl, set_at s1, by rw [set_off (by omega)]; exact t1, by simp [l1]⟩
  obtain ⟨ω2, e2, s2, t2, l2⟩ := q2
  rw [e2]
  refine ex_fld (evy_new (Ψ := fun x e => x = .loc ω2.length ∧ e = (Sta.mk [.loc l, .dat (.int n)] ω2).push (.lst ([].map Vl.dat))) (evn_lst eva_nil) ⟨rfl, rfl⟩) fun x e p => ?_
  obtain ⟨rfl, rfl⟩ := p
  refine ⟨l, T.C_Machine, _, evl_var rfl, pre_some s2, M.c, M.todo, by simp [mF2], ?_⟩
  rw [mF_3]
  show ExS K _ ⟨[.loc l, .dat (.int n)], (ω2 ++ [Cell.lst ([].map Vl.dat)]).set l (.ins T.C_Machine (mF3 ω.length ω2.length n))⟩ _
  have q3 : ∃ ω3, (ω2 ++ [Cell.lst ([].map Vl.dat)]).set l (.ins T.C_Machine (mF3 ω.length ω2.length n)) = ω3 ∧ ω3[l]? = some (.ins T.C_Machine (mF3 ω.length ω2.length n)) ∧ ω3[ω.length]? = some (.dic []) ∧ ω3[ω2.length]? = some (.lst ([].map Vl.dat)) ∧ ω3.length = ω.length + 2 :=
    ⟨_, rfl, set_at (pre_some s2), by rw [set_off (by omega)]; exact pre_some t2, by rw [set_off (by omega)]; exact at_end, by simp [l2]⟩
  obtain ⟨ω3, e3, s3, t3, b3, l3⟩ := q3
  rw [e3]
  refine ex_fld (evy_new (Ψ := fun x e => x = .loc ω3.length ∧ e = (Sta.mk [.loc l, .dat (.int n)] ω3).push (.lst ([].map Vl.dat))) (evn_lst eva_nil) ⟨rfl, rfl⟩) fun x e p => ?_
  obtain ⟨rfl, rfl⟩ := p
  refine ⟨l, T.C_Machine, _, evl_var rfl, pre_some s3, M.c, M.found, by simp [mF3], ?_⟩
  rw [mF_4]
  show ExS K _ ⟨[.loc l, .dat (.int n)], (ω3 ++ [Cell.lst ([].map Vl.dat)]).set l (.ins T.C_Machine (mF4 ω.length ω2.length ω3.length n))⟩ _
  have q4 : ∃ ω4, (ω3 ++ [Cell.lst ([].map Vl.dat)]).set l (.ins T.C_Machine (mF4 ω.length ω2.length ω3.length n)) = ω4 ∧ ω4[l]? = some (.ins T.C_Machine (mF4 ω.length ω2.length ω3.length n)) ∧ ω4[ω.length]? = some (.dic []) ∧ ω4[ω2.length]? = some (.lst ([].map Vl.dat)) ∧ ω4[ω3.length]? = some (.lst ([].map Vl.dat)) :=
    ⟨_, rfl, set_at (pre_some s3), by rw [set_off (by omega)]; exact pre_some t3, by rw [set_off (by omega)]; exact pre_some b3, by rw [set_off (by omega)]; exact at_end⟩
  obtain ⟨ω4, e4, s4, t4, b4, c4⟩ := q4
  rw [e4]
  apply ex_one
  refine ex_fld (evy_d (Ψ := fun x e => x = .dat .non ∧ e = ⟨[.loc l, .dat (.int n)], ω4⟩) evd_non ⟨rfl, rfl⟩) fun x e p => ?_
  obtain ⟨rfl, rfl⟩ := p
  refine ⟨l, T.C_Machine, _, evl_var rfl, s4, M.c, M.ended, by simp [mF4], ?_⟩
  rw [mF_5]
  apply ex_next
  exact ⟨rfl, ω.length, ω2.length, ω3.length, by omega, by omega, by omega, by omega, by omega, by omega, set_at s4, (set_off (by omega)).trans t4, (set_off (by omega)).trans b4, (set_off (by omega)).trans c4⟩
theorem ok_reckoned (T : Tx K mg) : FnOk P w K mg base CX0 1 T.a_reckoned T.d_reckoned ["name", "one", "other"] (spF K (P_reckoned)) := by
  refine ok_def (rule_fun T.F_reckoned) sc_reckoned (fun ds r h => by cases h <;> rfl) fun cdv A outer s H E hr => ⟨_, (pss_cons (ps_if (pt_cmpR (op_eqK (K := K) rfl hr.units) (pv 0) pe_str (nomark _)) (pss_one (ps_ret (pe_op (op_addK (K := K) rfl) (pv 1) (pv 2)))) pss_nil)
      (pss_cons (ps_if (pt_cmpR (op_eqK (K := K) rfl hr.units) (pv 0) pe_str (nomark _)) (pss_one (ps_ret (pe_op op_sub (pv 1) (pv 2)))) pss_nil)
      (pss_one (ps_ret (pe_callTy call_int1 (by rfl) T.n_int (by decide +kernel) (pa_cons (pe_cmpR op_lt (pv 1) (pv 2) (nomark _)) pa_nil)))))), fun ds r h => ?_⟩
  have hu := hu_of hr
  try dsimp only [L2.Cx.nox, L2.Cx.wish, L2.cxOf]
  cases h with
  | @mk x a b =>
  walk_at "if"
  · intro e
    apply ex_left
    walk_at "ret"
    show Res.dat _ = Res.dat _
    simp only [beq_iff_eq] at e
    simp [reck, e]
  · intro e
    apply ex_seqN
    simp only [beq_eq_false_iff_ne, ne_eq] at e
    walk_at "if"
    · intro e2
      apply ex_left
      walk_at "ret"
      show Res.dat _ = Res.dat _
      simp only [beq_iff_eq] at e2
      rw [reck, if_neg e, if_pos e2]
    · intro e2
      apply ex_seqN
      simp only [beq_eq_false_iff_ne, ne_eq] at e2
      refine ex_retM (evm_cb (evms_cons (evm_op (evm_var rfl) (evm_var rfl) (.inl rd_B0)) evms_nil) (.inl rc_int_bl)) rfl ?_
      show Res.dat _ = Res.dat _
      simp only [reck, if_neg e, if_neg e2]
      by_cases h : a < b <;> simp [h]
theorem ok_Machine_operation (T : Tx K mg) : FnOk P w K mg base CX0 1 T.a_Machine_operation T.d_Machine_operation ["self", "name"] (spX K (P_Machine_operation T.C_Machine)) := by
  refine ok_defX (rule_fun T.F_Machine_operation) sc_Machine_operation (fun xs ω Ψ h => by cases h <;> rfl) fun cdv A outer s H E hr => ⟨_, (pss_one (ps_if (PW.pt (pw_or (pt_cmpR (op_eqK (K := K) rfl hr.units) (pv 1) pe_str (nomark _)) (pw_or (pt_cmpR (op_eqK (K := K) rfl hr.units) (pv 1) pe_str (nomark _)) (pw_or1 (pt_cmpR (op_eqK (K := K) rfl hr.units) (pv 1) pe_str (nomark _)))))) (pss_one (ps_expr (pe_bm PySem.F.plainAttrs_list PySem.F.slot_list_append PySem.F.type_list_append mt_append (pe_fldK (K := K) rfl (pv 0) rfl) (pa_cons (pe_tup (pa_cons pe_str (pa_cons (pv 1) pa_nil))) pa_nil)))) (pss_one (ps_fld (pv 0) pe_str rfl)))), fun xs ω Ψ h => ?_⟩
  have hu := hu_of hr
  try dsimp only [L2.Cx.nox, L2.Cx.wish, L2.cxOf]
  cases h with
  | @mk ω l m x h0 h1 =>
  have M := mc_of T
  show ExS K _ ⟨[.loc l, .dat (.str x)], ω⟩ _
  apply ex_if (b := isOp x)
  · exact evt_or (evt_testM (evm_op (evm_var rfl) evm_str (.inl rd_eq_str))) fun _ => evt_or (evt_testM (evm_op (evm_var rfl) evm_str (.inl rd_eq_str))) fun _ => evt_testM (evm_op (evm_var rfl) evm_str (.inl rd_eq_str))
  · intro e
    apply ex_one
    refine ex_found M h0 rfl (v := .op x) (evd_tup (eva_cons evd_str (eva_cons (evd_var rfl) eva_nil)) (by simp)) h1 fun ω' h' => ?_
    apply ex_next
    refine ⟨rfl, ?_⟩
    simp only [comeM, if_pos e]
    exact h'
  · intro e
    apply ex_one
    refine ex_stop M h0 rfl fun ω' h' => ?_
    apply ex_next
    refine ⟨rfl, ?_⟩
    simp only [comeM, e]
    exact h'
theorem ok_Machine_look (T : Tx K mg) : FnOk P w K mg base CX0 1 T.a_Machine_look T.d_Machine_look ["self", "place", "known"] (spX K (P_Machine_look T.C_Machine)) := by
  refine ok_defX (rule_fun T.F_Machine_look) sc_Machine_look (fun xs ω Ψ h => by cases h <;> rfl) fun cdv A outer s H E hr => ⟨_, (pss_one (ps_if (pt_cmp (pc_din (hu_of hr) (pv 1) (pv 2))) (pss_one (ps_expr (pe_bm PySem.F.plainAttrs_list PySem.F.slot_list_append PySem.F.type_list_append mt_append (pe_fldK (K := K) rfl (pv 0) rfl) (pa_cons (pe_dget (hu_of hr) (pv 2) (pv 1) (fun _ _ => rfl)) pa_nil)))) (pss_one (ps_if (pt_cmp (pc_din (hu_of hr) (pv 1) (pe_fldK (K := K) rfl (pv 0) rfl))) (pss_one (ps_expr (pe_bm PySem.F.plainAttrs_list PySem.F.slot_list_append PySem.F.type_list_append mt_append (pe_fldK (K := K) rfl (pv 0) rfl) (pa_cons (pe_dget (hu_of hr) (pe_fldK (K := K) rfl (pv 0) rfl) (pv 1) (fun _ _ => rfl)) pa_nil)))) (pss_one (ps_fld (pv 0) pe_str rfl)))))), fun xs ω Ψ h => ?_⟩
  have hu := hu_of hr
  try dsimp only [L2.Cx.nox, L2.Cx.wish, L2.cxOf]
  cases h with
  | @mk ω l m p ks vs h0 h1 =>
  have M := mc_of T
  show ExS K _ ⟨[.loc l, .dat (.int p), .dat (envD ks vs)], ω⟩ _
  apply ex_if (b := (lookE ks vs p).isSome)
  · refine evt_is (evt_B (evh_din (k := .inl p) (EvD.toH (evd_var (d := envD ks vs) rfl)) (EvD.toH (evd_var rfl)))) ?_
    rw [lookE_D]
    cases lookE ks vs p <;> rfl
  · intro e
    obtain ⟨v, hv⟩ := Option.isSome_iff_exists.mp e
    apply ex_one
    refine ex_found M h0 rfl (v := v) (evd_dget (k := .inl p) (evd_var (d := envD ks vs) rfl) (EvD.toH (evd_var rfl)) (by rw [lookE_D, hv]; rfl)) h1 fun ω' h' => ?_
    apply ex_next
    refine ⟨rfl, ?_⟩
    simp only [comeM, hv]
    exact h'
  · intro e
    have hn : lookE ks vs p = none := by simpa using e
    apply ex_if (evt_inTops M h0 rfl (EvD.toH (evd_var rfl)))
    · intro e2
      obtain ⟨v, hv⟩ := Option.isSome_iff_exists.mp e2
      apply ex_one
      refine ex_found M h0 rfl (v := v) ((ev_getTops M h0 rfl (EvD.toH (evd_var rfl)) hv).toD rfl) h1 fun ω' h' => ?_
      apply ex_next
      refine ⟨rfl, ?_⟩
      simp only [comeM, hn, hv]
      exact h'
    · intro e2
      have hn2 : lookE m.tk m.tv p = none := by simpa using e2
      apply ex_one
      refine ex_stop M h0 rfl fun ω' h' => ?_
      apply ex_next
      refine ⟨rfl, ?_⟩
      simp only [comeM, hn, hn2]
      exact h'
theorem ok_Machine_choose (T : Tx K mg) : FnOk P w K mg base CX0 1 T.a_Machine_choose T.d_Machine_choose ["self", "one", "other", "known"] (spX K (P_Machine_choose T.C_Machine)) := by
  refine ok_defX (rule_fun T.F_Machine_choose) sc_Machine_choose (fun xs ω Ψ h => by cases h <;> rfl) fun cdv A outer s H E hr => ⟨_, (pss_cons (ps_set (i := 4) sc_Machine_choose.nd rfl (by first | exact Or.inl rfl | exact Or.inr rfl) (pe_bm0 PySem.F.plainAttrs_list PySem.F.slot_list_pop PySem.F.type_list_pop mt_pop (pe_fldK (K := K) rfl (pv 0) rfl)))
      (pss_one (ps_if (pt_cmpR (op_neK (K := K) rfl hr.units) (pe_ix (ix_seqK (K := K) rfl) (pv 4) pe_int (fun _ _ => rfl)) pe_str (nomark _)) (pss_one (ps_fld (pv 0) pe_str rfl)) (pss_one (ps_if (pt_cmpR (op_eqK (K := K) rfl hr.units) (pe_ix (ix_seqK (K := K) rfl) (pv 4) pe_int (fun _ _ => rfl)) pe_int (nomark _)) (pss_one (ps_expr (pe_bm PySem.F.plainAttrs_list PySem.F.slot_list_append PySem.F.type_list_append mt_append (pe_fldK (K := K) rfl (pv 0) rfl) (pa_cons (pe_tup (pa_cons pe_str (pa_cons (pv 2) (pa_cons (pv 3) pa_nil)))) pa_nil)))) (pss_one (ps_expr (pe_bm PySem.F.plainAttrs_list PySem.F.slot_list_append PySem.F.type_list_append mt_append (pe_fldK (K := K) rfl (pv 0) rfl) (pa_cons (pe_tup (pa_cons pe_str (pa_cons (pv 1) (pa_cons (pv 3) pa_nil)))) pa_nil))))))))), fun xs ω Ψ h => ?_⟩
  have hu := hu_of hr
  try dsimp only [L2.Cx.nox, L2.Cx.wish, L2.cxOf]
  cases h with
  | @mk ω l m b c ks vs v F h0 hf h3 =>
  have M := mc_of T
  show ExS K _ ⟨[.loc l, .dat b.dat, .dat c.dat, .dat (envD ks vs), .no], ω⟩ _
  refine ex_popFound M h0 rfl hf fun ω1 h1 => ?_
  show ExS K _ ⟨[.loc l, .dat b.dat, .dat c.dat, .dat (envD ks vs), .dat v.dat], ω1⟩ _
  cases v with
  | num n =>
    apply ex_if (b := false)
    · exact evt_is (evt_testM (evm_op (evm_op (evm_var (d := .tup [.str "num", .int n]) (by simp [Val.dat]; rfl)) evm_int (.inl (rd_ixT rfl))) evm_str (.inl rd_ne_str))) (by decide)
    · intro e; cases e
    · intro _
      apply ex_if (b := n == 0)
      · exact evt_testM (evm_op (evm_op (evm_var (d := .tup [.str "num", .int n]) (by simp [Val.dat]; rfl)) evm_int (.inl (rd_ixT rfl))) evm_int (.inl rd_eq_int))
      · intro e
        simp only [beq_iff_eq] at e
        apply ex_one
        refine ex_todo M h1 rfl (t := .core c ks vs) (evd_tup (eva_cons evd_str (eva_cons (evd_var rfl) (eva_cons (evd_var rfl) eva_nil))) (by simp)) (by simp only; omega) fun ω' h' => ?_
        apply ex_next
        refine ⟨rfl, ?_⟩
        simp only [chooseM, if_pos e]
        exact h'
      · intro e
        simp only [beq_eq_false_iff_ne, ne_eq] at e
        apply ex_one
        refine ex_todo M h1 rfl (t := .core b ks vs) (evd_tup (eva_cons evd_str (eva_cons (evd_var rfl) (eva_cons (evd_var rfl) eva_nil))) (by simp)) (by simp only; omega) fun ω' h' => ?_
        apply ex_next
        refine ⟨rfl, ?_⟩
        simp only [chooseM, if_neg e]
        exact h'
  | op x =>
    apply ex_if (b := true)
    · exact evt_is (evt_testM (evm_op (evm_op (evm_var (d := .tup [.str "op", .str x]) (by simp [Val.dat]; rfl)) evm_int (.inl (rd_ixT rfl))) evm_str (.inl rd_ne_str))) (by decide)
    · intro _
      apply ex_one
      refine ex_stop M h1 rfl fun ω' h' => ?_
      exact ex_next ⟨rfl, h'⟩
    · intro e; cases e
  | fn ps bb ks2 vs2 =>
    apply ex_if (b := true)
    · exact evt_is (evt_testM (evm_op (evm_op (evm_var (d := .tup [.str "fn", .tup (ps.map parD), bb.dat, .dic (ks2.map Sum.inl) (valsD vs2)]) (by simp [Val.dat]; rfl)) evm_int (.inl (rd_ixT rfl))) evm_str (.inl rd_ne_str))) (by decide)
    · intro _
      apply ex_one
      refine ex_stop M h1 rfl fun ω' h' => ?_
      exact ex_next ⟨rfl, h'⟩
    · intro e; cases e
theorem ok_Machine_enter (T : Tx K mg) : FnOk P w K mg base CX0 1 T.a_Machine_enter T.d_Machine_enter ["self", "first", "things"] (spX K (P_Machine_enter T.C_Machine)) := by
  refine ok_defX (rule_fun T.F_Machine_enter) sc_Machine_enter (fun xs ω Ψ h => by cases h <;> rfl) fun cdv A outer s H E hr => ⟨_, (pss_one (ps_if (pt_cmpR (op_eqK (K := K) rfl hr.units) (pe_fldK (K := K) rfl (pv 0) rfl) pe_int (nomark _)) (pss_one (ps_fld (pv 0) pe_str rfl)) (pss_cons (ps_fld (pv 0) (pe_op op_sub (pe_fldK (K := K) rfl (pv 0) rfl) pe_int) rfl)
      (pss_cons (ps_set (i := 3) sc_Machine_enter.nd rfl (by first | exact Or.inl rfl | exact Or.inr rfl) (pe_callTy call_dictOf (by rfl) T.n_dict (by decide +kernel) (pa_cons (pe_ix (ix_seqK (K := K) rfl) (pv 1) pe_int (fun _ _ => rfl)) pa_nil)))
      (pss_cons (ps_for PassesOwn.never rfl (pi_zipP (K := K) rfl false true (by rfl) T.n_zip (pa_cons (pe_ix (ix_seqK (K := K) rfl) (pv 1) pe_int (fun _ _ => rfl)) (pa_cons (pv 2) pa_nil))) (pg_tup rfl (pgs_cons (pg_name (i := 4) sc_Machine_enter.nd rfl (by first | exact Or.inl rfl | exact Or.inr rfl)) (pgs_cons (pg_name (i := 5) sc_Machine_enter.nd rfl (by first | exact Or.inl rfl | exact Or.inr rfl)) pgs_nil))) (pss_one (ps_dput (hu_of hr) (pv 3) (pe_ix (ix_seqK (K := K) rfl) (pv 4) pe_int (fun _ _ => rfl)) (pv 5) rfl)))
      (pss_one (ps_expr (pe_bm PySem.F.plainAttrs_list PySem.F.slot_list_append PySem.F.type_list_append mt_append (pe_fldK (K := K) rfl (pv 0) rfl) (pa_cons (pe_tup (pa_cons pe_str (pa_cons (pe_ix (ix_seqK (K := K) rfl) (pv 1) pe_int (fun _ _ => rfl)) (pa_cons (pv 3) pa_nil)))) pa_nil))))))))), fun xs ω Ψ h => ?_⟩
  have hu := hu_of hr
  try dsimp only [L2.Cx.nox, L2.Cx.wish, L2.cxOf]
  cases h with
  | @mk ω l m ps b ks vs us h0 hl h3 h4 =>
  have M := mc_of T
  have ev : (Val.fn ps b ks vs).dat = .tup [.str "fn", .tup (ps.map parD), b.dat, envD ks vs] := by
    simp only [Val.dat, envD, valsD_map]
  rw [ev]
  show ExS K _ ⟨[.loc l, .dat (.tup [.str "fn", .tup (ps.map parD), b.dat, envD ks vs]), .dat (.lst (us.map Val.dat)), .no, .no, .no], ω⟩ _
  apply ex_if (b := m.left == 0)
  · exact evt_testM (evm_op (ev_left M h0 rfl) evm_int (.inl rd_eq_int))
  · intro e
    simp only [beq_iff_eq] at e
    apply ex_one
    refine ex_stop M h0 rfl fun ω' h' => ?_
    apply ex_next
    refine ⟨rfl, ?_⟩
    unfold enterM
    rw [if_pos e]
    exact h'
  · intro e
    simp only [beq_eq_false_iff_ne, ne_eq] at e
    refine ex_setLeft M h0 rfl (n := m.left - 1) ((evm_op (ev_left M h0 rfl) evm_int (.inl rd_I0)).toD rfl) fun ω1 h1 => ?_
    apply ex_setND
    · exact evnd_dictOf (ks := ks.map Sum.inl) (ds := vs.map Val.dat) (eva_cons (EvM.toD (d := envD ks vs) (evm_op (evm_var rfl) evm_int (.inl (rd_ixT rfl))) rfl) eva_nil)
    show ExS K _ ⟨[.loc l, .dat (.tup [.str "fn", .tup (ps.map parD), b.dat, envD ks vs]), .dat (.lst (us.map Val.dat)), .ownD (ks.map Sum.inl) (vs.map Val.dat), .no, .no], ω1⟩ _
    refine ex_for (ds := zipD (ps.map parD) (us.map Val.dat)) (fun i ε => ∃ x y, ε = ⟨[.loc l, .dat (.tup [.str "fn", .tup (ps.map parD), b.dat, envD ks vs]), .dat (.lst (us.map Val.dat)), .ownD ((bKs (ps.take i) (us.take i) ks).map Sum.inl) ((bVs (ps.take i) (us.take i) ks vs).map Val.dat), x, y], ω1⟩)
      (evw_zipP false true (eva_cons (EvM.toD (d := .tup (ps.map parD)) (evm_op (evm_var rfl) evm_int (.inl (rd_ixT rfl))) rfl) (eva_cons (evd_var rfl) eva_nil))) ⟨.no, .no, by simp [bKs, bVs]⟩ ?_ ?_
    · rintro i d _ hd ⟨x, y, rfl⟩
      have hlen : (zipD (ps.map parD) (us.map Val.dat)).length = ps.length := by simp [zipD, hl]
      have hi : i < ps.length := by rw [← hlen]; exact (List.getElem?_eq_some_iff.mp hd).1
      have hi2 : i < us.length := by omega
      have hd' : d = .tup [parD ps[i], (us[i]).dat] := by
        unfold zipD at hd
        rw [List.getElem?_zipWith, List.getElem?_map, List.getElem?_map, List.getElem?_eq_getElem hi, List.getElem?_eq_getElem hi2] at hd
        simpa using hd.symm
      subst hd'
      refine ⟨_, eg_two, ?_⟩
      show ExS K _ ⟨[.loc l, .dat (.tup [.str "fn", .tup (ps.map parD), b.dat, envD ks vs]), .dat (.lst (us.map Val.dat)), .ownD ((bKs (ps.take i) (us.take i) ks).map Sum.inl) ((bVs (ps.take i) (us.take i) ks vs).map Val.dat), .dat (parD ps[i]), .dat (us[i]).dat], ω1⟩ _
      apply ex_one
      have q1 := bKs_len (ps.take i) (us.take i) ks
      have q2 : (ps.take i).length ≤ ps.length := by rw [List.length_take]; omega
      refine ex_dputO (i := 3) (k := .inl ps[i].1) (evd_var (d := (us[i]).dat) rfl) rfl (EvM.toH (d := .int ps[i].1) (evm_op (evm_var (d := .tup [.int ps[i].1, .str ps[i].2]) rfl) evm_int (.inl (rd_ixT rfl)))) (nodup_inl (bKs_nodup h4.1)) (by rw [List.length_map]; have := h4.2; omega) ?_
      apply ex_next
      rw [pKs_ks, pVs_ds]
      have t1 : ps.take (i + 1) = ps.take i ++ [ps[i]] := by rw [List.take_add_one, List.getElem?_eq_getElem hi]; rfl
      have t2 : us.take (i + 1) = us.take i ++ [us[i]] := by rw [List.take_add_one, List.getElem?_eq_getElem hi2]; rfl
      refine ⟨.dat (parD ps[i]), .dat (us[i]).dat, ?_⟩
      rw [t1, t2, (bind_snoc (ps.take i) (us.take i) ks vs ps[i] us[i] (by rw [List.length_take, List.length_take]; omega)).1, (bind_snoc (ps.take i) (us.take i) ks vs ps[i] us[i] (by rw [List.length_take, List.length_take]; omega)).2]
      rfl
    · rintro _ ⟨x, y, rfl⟩
      have hlen : (zipD (ps.map parD) (us.map Val.dat)).length = ps.length := by simp [zipD, hl]
      rw [hlen]
      have t1 : ps.take ps.length = ps := List.take_length
      have t2 : us.take ps.length = us := by rw [hl]; exact List.take_length
      rw [t1, t2]
      refine ex_standD (i := 3) rfl ?_
      apply ex_one
      refine ex_todo (i := 0) M h1 rfl (t := .core b (bKs ps us ks) (bVs ps us ks vs)) (evd_tup (eva_cons evd_str (eva_cons (EvM.toD (evm_op (evm_var (d := .tup [.str "fn", .tup (ps.map parD), b.dat, envD ks vs]) rfl) evm_int (.inl (rd_ixT rfl))) rfl) (eva_cons (evd_var rfl) eva_nil))) (by simp)) (by simp only; omega) fun ω' h' => ?_
      apply ex_next
      refine ⟨rfl, ?_⟩
      unfold enterM
      rw [if_neg e]
      exact h'
local macro_rules | `(tactic| walk_at "noif") => `(tactic| (apply ex_if (b := false); (exact evt_is (evt_testM (evm_op (evm_var rfl) evm_str (.inl rd_eq_str))) (by decide)); (intro e; cases e); intro _))
theorem ok_Machine_come (T : Tx K mg) : FnOk P w K mg base CX0 2 T.a_Machine_come T.d_Machine_come ["self", "core", "known"] (spX K (P_Machine_come T.C_Machine)) := by
  refine ok_defX (rule_fun T.F_Machine_come) sc_Machine_come (fun xs ω Ψ h => by cases h <;> rfl) fun cdv A outer s H E hr => ⟨_, (pss_cons (ps_set (i := 3) sc_Machine_come.nd rfl (by first | exact Or.inl rfl | exact Or.inr rfl) (pe_ix (ix_seqK (K := K) rfl) (pv 1) pe_int (fun _ _ => rfl)))
      (pss_one (ps_if (pt_cmpR (op_eqK (K := K) rfl hr.units) (pv 3) pe_str (nomark _)) (pss_one (ps_expr (pe_bm PySem.F.plainAttrs_list PySem.F.slot_list_append PySem.F.type_list_append mt_append (pe_fldK (K := K) rfl (pv 0) rfl) (pa_cons (pv 1) pa_nil)))) (pss_one (ps_if (pt_cmpR (op_eqK (K := K) rfl hr.units) (pv 3) pe_str (nomark _)) (pss_one (ps_expr (pe_meth (pv 0) T.c_Machine T.m_Machine_operation (ok_Machine_operation T) (hr.mono (by first | decide | omega)) T.b_Machine_operation .nil pass0 (pa_cons (pe_ix (ix_seqK (K := K) rfl) (pv 1) pe_int (fun _ _ => rfl)) pa_nil)))) (pss_one (ps_if (pt_cmpR (op_eqK (K := K) rfl hr.units) (pv 3) pe_str (nomark _)) (pss_one (ps_expr (pe_meth (pv 0) T.c_Machine T.m_Machine_look (ok_Machine_look T) (hr.mono (by first | decide | omega)) T.b_Machine_look .nil pass0 (pa_cons (pe_ix (ix_seqK (K := K) rfl) (pv 1) pe_int (fun _ _ => rfl)) (pa_cons (pv 2) pa_nil))))) (pss_one (ps_if (pt_cmpR (op_eqK (K := K) rfl hr.units) (pv 3) pe_str (nomark _)) (pss_one (ps_expr (pe_bm PySem.F.plainAttrs_list PySem.F.slot_list_append PySem.F.type_list_append mt_append (pe_fldK (K := K) rfl (pv 0) rfl) (pa_cons (pe_tup (pa_cons pe_str (pa_cons (pe_ix (ix_seqK (K := K) rfl) (pv 1) pe_int (fun _ _ => rfl)) (pa_cons (pe_ix (ix_seqK (K := K) rfl) (pv 1) pe_int (fun _ _ => rfl)) (pa_cons (pv 2) pa_nil))))) pa_nil)))) (pss_one (ps_if (pt_cmpR (op_eqK (K := K) rfl hr.units) (pv 3) pe_str (nomark _)) (pss_cons (ps_expr (pe_bm PySem.F.plainAttrs_list PySem.F.slot_list_append PySem.F.type_list_append mt_append (pe_fldK (K := K) rfl (pv 0) rfl) (pa_cons (pe_tup (pa_cons pe_str (pa_cons (pe_callB (call_lenK (K := K) rfl) (by rfl) T.n_len (by decide +kernel) (pa_cons (pe_ix (ix_seqK (K := K) rfl) (pv 1) pe_int (fun _ _ => rfl)) pa_nil)) pa_nil))) pa_nil)))
      (pss_cons (ps_for PassesOwn.never rfl (pi_revAK (K := K) rfl (by rfl) T.n_reversed (pe_ix (ix_seqK (K := K) rfl) (pv 1) pe_int (fun _ _ => rfl))) (pg_name (i := 4) sc_Machine_come.nd rfl (by first | exact Or.inl rfl | exact Or.inr rfl)) (pss_one (ps_expr (pe_bm PySem.F.plainAttrs_list PySem.F.slot_list_append PySem.F.type_list_append mt_append (pe_fldK (K := K) rfl (pv 0) rfl) (pa_cons (pe_tup (pa_cons pe_str (pa_cons (pv 4) (pa_cons (pv 2) pa_nil)))) pa_nil)))))
      (pss_one (ps_expr (pe_bm PySem.F.plainAttrs_list PySem.F.slot_list_append PySem.F.type_list_append mt_append (pe_fldK (K := K) rfl (pv 0) rfl) (pa_cons (pe_tup (pa_cons pe_str (pa_cons (pe_ix (ix_seqK (K := K) rfl) (pv 1) pe_int (fun _ _ => rfl)) (pa_cons (pv 2) pa_nil)))) pa_nil)))))) (pss_one (ps_if (pt_cmpR (op_eqK (K := K) rfl hr.units) (pv 3) pe_str (nomark _)) (pss_cons (ps_expr (pe_bm PySem.F.plainAttrs_list PySem.F.slot_list_append PySem.F.type_list_append mt_append (pe_fldK (K := K) rfl (pv 0) rfl) (pa_cons (pe_tup (pa_cons pe_str (pa_cons (pe_ix (ix_seqK (K := K) rfl) (pv 1) pe_int (fun _ _ => rfl)) (pa_cons (pe_ix (ix_seqK (K := K) rfl) (pv 1) pe_int (fun _ _ => rfl)) (pa_cons (pv 2) pa_nil))))) pa_nil)))
      (pss_one (ps_expr (pe_bm PySem.F.plainAttrs_list PySem.F.slot_list_append PySem.F.type_list_append mt_append (pe_fldK (K := K) rfl (pv 0) rfl) (pa_cons (pe_tup (pa_cons pe_str (pa_cons (pe_ix (ix_seqK (K := K) rfl) (pv 1) pe_int (fun _ _ => rfl)) (pa_cons (pv 2) pa_nil)))) pa_nil))))) (pss_one (ps_expr (pe_bm PySem.F.plainAttrs_list PySem.F.slot_list_append PySem.F.type_list_append mt_append (pe_fldK (K := K) rfl (pv 0) rfl) (pa_cons (pe_tup (pa_cons pe_str (pa_cons (pe_ix (ix_seqK (K := K) rfl) (pv 1) pe_int (fun _ _ => rfl)) (pa_cons (pv 2) pa_nil)))) pa_nil))))))))))))))))), fun xs ω Ψ h => ?_⟩
  have hu := hu_of hr
  try dsimp only [L2.Cx.nox, L2.Cx.wish, L2.cxOf]
  cases h with
  | @mk ω l m c ks vs h0 h1 h2 h3 =>
  have M := mc_of T
  cases c with
  | num n =>
    rw [show (Core.num n).dat = .tup [.str "num", .int n] by simp only [Core.dat]]
    show ExS K _ ⟨[.loc l, .dat (.tup [.str "num", .int n]), .dat (envD ks vs), .no, .no], ω⟩ _
    walk_at "set"
    show ExS K _ ⟨[.loc l, .dat (.tup [.str "num", .int n]), .dat (envD ks vs), .dat (.str "num"), .no], ω⟩ _
    apply ex_if (b := true)
    · exact evt_is (evt_testM (evm_op (evm_var rfl) evm_str (.inl rd_eq_str))) (by decide)
    · intro _
      apply ex_one
      refine ex_found M h0 rfl (v := .num n) ?_ h1 fun ω' h' => ex_next ⟨rfl, h'⟩
      rw [show (Val.num n).dat = .tup [.str "num", .int n] by simp only [Val.dat]]
      exact evd_var rfl
    · intro e; cases e
  | free x =>
    rw [show (Core.free x).dat = .tup [.str "free", .str x] by simp only [Core.dat]]
    show ExS K _ ⟨[.loc l, .dat (.tup [.str "free", .str x]), .dat (envD ks vs), .no, .no], ω⟩ _
    walk_at "set"
    show ExS K _ ⟨[.loc l, .dat (.tup [.str "free", .str x]), .dat (envD ks vs), .dat (.str "free"), .no], ω⟩ _
    walk_at "noif"
    apply ex_if (b := true)
    · exact evt_is (evt_testM (evm_op (evm_var rfl) evm_str (.inl rd_eq_str))) (by decide)
    · intro _
      apply ex_one
      exact ex_methM h0 rfl (fun _ _ _ _ _ => no_meth (by decide) (by decide) (by decide) (by decide) (by decide)) (ds := [.str x]) (eva_cons (EvM.toD (by walk_at "ev") (by rfl)) eva_nil) (.mk h0 h1) fun ω' h' => ex_next ⟨rfl, h'⟩
    · intro e; cases e
  | seen p =>
    rw [show (Core.seen p).dat = .tup [.str "seen", .int p] by simp only [Core.dat]]
    show ExS K _ ⟨[.loc l, .dat (.tup [.str "seen", .int p]), .dat (envD ks vs), .no, .no], ω⟩ _
    walk_at "set"
    show ExS K _ ⟨[.loc l, .dat (.tup [.str "seen", .int p]), .dat (envD ks vs), .dat (.str "seen"), .no], ω⟩ _
    walk_at "noif"
    walk_at "noif"
    apply ex_if (b := true)
    · exact evt_is (evt_testM (evm_op (evm_var rfl) evm_str (.inl rd_eq_str))) (by decide)
    · intro _
      apply ex_one
      exact ex_methM h0 rfl (fun _ _ _ _ _ => no_meth (by decide) (by decide) (by decide) (by decide) (by decide)) (ds := [.int p, envD ks vs]) (eva_cons (EvM.toD (by walk_at "ev") (by rfl)) (eva_cons (evd_var rfl) eva_nil)) (.mk h0 h1) fun ω' h' => ex_next ⟨rfl, h'⟩
    · intro e; cases e
  | fn ps b =>
    rw [show (Core.fn ps b).dat = .tup [.str "fn", .tup (ps.map parD), b.dat] by simp only [Core.dat]]
    show ExS K _ ⟨[.loc l, .dat (.tup [.str "fn", .tup (ps.map parD), b.dat]), .dat (envD ks vs), .no, .no], ω⟩ _
    walk_at "set"
    show ExS K _ ⟨[.loc l, .dat (.tup [.str "fn", .tup (ps.map parD), b.dat]), .dat (envD ks vs), .dat (.str "fn"), .no], ω⟩ _
    walk_at "noif"
    walk_at "noif"
    walk_at "noif"
    apply ex_if (b := true)
    · exact evt_is (evt_testM (evm_op (evm_var rfl) evm_str (.inl rd_eq_str))) (by decide)
    · intro _
      apply ex_one
      refine ex_found M h0 rfl (v := .fn ps b ks vs) ?_ h1 fun ω' h' => ex_next ⟨rfl, h'⟩
      rw [show (Val.fn ps b ks vs).dat = .tup [.str "fn", .tup (ps.map parD), b.dat, envD ks vs] by simp only [Val.dat, envD, valsD_map]]
      exact evd_tup (eva_cons evd_str (eva_cons (EvM.toD (by walk_at "ev") (by rfl)) (eva_cons (EvM.toD (by walk_at "ev") (by rfl)) (eva_cons (evd_var rfl) eva_nil)))) (by simp)
    · intro e; cases e
  | call f xs =>
    have h2 := h2 f xs rfl
    rw [show (Core.call f xs).dat = .tup [.str "call", f.dat, .tup (xs.map Core.dat)] by simp only [Core.dat, coresD_map]]
    show ExS K _ ⟨[.loc l, .dat (.tup [.str "call", f.dat, .tup (xs.map Core.dat)]), .dat (envD ks vs), .no, .no], ω⟩ _
    walk_at "set"
    show ExS K _ ⟨[.loc l, .dat (.tup [.str "call", f.dat, .tup (xs.map Core.dat)]), .dat (envD ks vs), .dat (.str "call"), .no], ω⟩ _
    walk_at "noif"
    walk_at "noif"
    walk_at "noif"
    walk_at "noif"
    apply ex_if (b := true)
    · exact evt_is (evt_testM (evm_op (evm_var rfl) evm_str (.inl rd_eq_str))) (by decide)
    · intro _
      refine ex_todo M h0 rfl (t := .call xs.length) ?_ (by omega) fun ω1 h4 => ?_
      · rw [show (Task.call xs.length).dat = .tup [.str "call", .int (xs.map Core.dat).length] by simp only [Task.dat, List.length_map]]
        exact evd_tup (eva_cons evd_str (eva_cons (EvM.toD (evm_cb (evms_cons (evm_op (evm_var rfl) evm_int (.inl (rd_ixT rfl))) evms_nil) (.inl rc_lenTK)) rfl) eva_nil)) (by simp)
      refine ex_for1 (j := 4) (ds := (xs.map Core.dat).reverse) (fun i ε => ∃ ω2 x, ε = ⟨[.loc l, .dat (.tup [.str "call", f.dat, .tup (xs.map Core.dat)]), .dat (envD ks vs), .dat (.str "call"), x], ω2⟩ ∧ MAt T.C_Machine ω2 l (goAll (m.go (.call xs.length)) ks vs (xs.drop (xs.length - i))))
        (evw_revT (EvM.toD (d := .tup (xs.map Core.dat)) (by walk_at "ev") (by rfl))) ⟨ω1, .no, rfl, by simpa [goAll] using h4⟩ ?_ ?_
      · rintro i d _ hd ⟨ω2, x, rfl, h5⟩
        have hi : i < xs.length := by
          have := (List.getElem?_eq_some_iff.mp hd).1
          simpa using this
        have hd' : d = (xs[xs.length - 1 - i]).dat := by
          rw [List.getElem?_reverse (by simpa using hi), List.getElem?_map, List.length_map, List.getElem?_eq_getElem (by omega)] at hd
          simpa using hd.symm
        subst hd'
        apply ex_one
        show ExS K _ ⟨[.loc l, .dat (.tup [.str "call", f.dat, .tup (xs.map Core.dat)]), .dat (envD ks vs), .dat (.str "call"), .dat (xs[xs.length - 1 - i]).dat], ω2⟩ _
        refine ex_todo M h5 rfl (t := .core xs[xs.length - 1 - i] ks vs) (evd_tup (eva_cons evd_str (eva_cons (evd_var rfl) (eva_cons (evd_var rfl) eva_nil))) (by simp)) (by simp [goAll, MSt.go]; omega) fun ω3 h6 => ?_
        apply ex_next
        refine ⟨ω3, _, rfl, ?_⟩
        have e : xs.drop (xs.length - (i + 1)) = xs[xs.length - 1 - i] :: xs.drop (xs.length - i) := by
          rw [show xs.length - (i + 1) = xs.length - 1 - i by omega, List.drop_eq_getElem_cons (by omega), show xs.length - 1 - i + 1 = xs.length - i by omega]
        rw [e]
        exact h6
      · rintro _ ⟨ω2, x, rfl, h5⟩
        rw [List.length_reverse, List.length_map, Nat.sub_self, List.drop_zero] at h5
        apply ex_one
        refine ex_todo M h5 rfl (t := .core f ks vs) (evd_tup (eva_cons evd_str (eva_cons (EvM.toD (by walk_at "ev") (by rfl)) (eva_cons (evd_var rfl) eva_nil))) (by simp)) (by simp [goAll, MSt.go]; omega) fun ω3 h6 => ex_next ⟨rfl, h6⟩
    · intro e; cases e
  | pick a b c =>
    rw [show (Core.pick a b c).dat = .tup [.str "pick", a.dat, b.dat, c.dat] by simp only [Core.dat]]
    show ExS K _ ⟨[.loc l, .dat (.tup [.str "pick", a.dat, b.dat, c.dat]), .dat (envD ks vs), .no, .no], ω⟩ _
    walk_at "set"
    show ExS K _ ⟨[.loc l, .dat (.tup [.str "pick", a.dat, b.dat, c.dat]), .dat (envD ks vs), .dat (.str "pick"), .no], ω⟩ _
    walk_at "noif"
    walk_at "noif"
    walk_at "noif"
    walk_at "noif"
    walk_at "noif"
    apply ex_if (b := true)
    · exact evt_is (evt_testM (evm_op (evm_var rfl) evm_str (.inl rd_eq_str))) (by decide)
    · intro _
      refine ex_todo M h0 rfl (t := .pick b c ks vs) (evd_tup (eva_cons evd_str (eva_cons (EvM.toD (by walk_at "ev") (by rfl)) (eva_cons (EvM.toD (by walk_at "ev") (by rfl)) (eva_cons (evd_var rfl) eva_nil)))) (by simp)) (by omega) fun ω1 h4 => ?_
      apply ex_one
      exact ex_todo M h4 rfl (t := .core a ks vs) (evd_tup (eva_cons evd_str (eva_cons (EvM.toD (by walk_at "ev") (by rfl)) (eva_cons (evd_var rfl) eva_nil))) (by simp)) (by simp [MSt.go]; omega) fun ω1 h4 => ex_next ⟨rfl, h4⟩
    · intro e; cases e
  | now a =>
    rw [show (Core.now a).dat = .tup [.str "now", a.dat] by simp only [Core.dat]]
    show ExS K _ ⟨[.loc l, .dat (.tup [.str "now", a.dat]), .dat (envD ks vs), .no, .no], ω⟩ _
    walk_at "set"
    show ExS K _ ⟨[.loc l, .dat (.tup [.str "now", a.dat]), .dat (envD ks vs), .dat (.str "now"), .no], ω⟩ _
    walk_at "noif"
    walk_at "noif"
    walk_at "noif"
    walk_at "noif"
    walk_at "noif"
    walk_at "noif"
    apply ex_one
    exact ex_todo M h0 rfl (t := .core a ks vs) (evd_tup (eva_cons evd_str (eva_cons (EvM.toD (by walk_at "ev") (by rfl)) (eva_cons (evd_var rfl) eva_nil))) (by simp)) (by omega) fun ω1 h4 => ex_next ⟨rfl, h4⟩
theorem ok_Machine_call (T : Tx K mg) : FnOk P w K mg base CX0 2 T.a_Machine_call T.d_Machine_call ["self", "many"] (spX K (P_Machine_call T.C_Machine)) := by
  refine ok_defX (rule_fun T.F_Machine_call) sc_Machine_call (fun xs ω Ψ h => by cases h <;> rfl) fun cdv A outer s H E hr => ⟨_, (pss_cons (ps_set (i := 2) sc_Machine_call.nd rfl (by first | exact Or.inl rfl | exact Or.inr rfl) (pe_op op_sub (pe_callB (call_lenK (K := K) rfl) (by rfl) T.n_len (by decide +kernel) (pa_cons (pe_fldK (K := K) rfl (pv 0) rfl) pa_nil)) (pv 1)))
      (pss_cons (ps_set (i := 3) sc_Machine_call.nd rfl (by first | exact Or.inl rfl | exact Or.inr rfl) (pe_slice (sl_listK (K := K) rfl) (pe_fldK (K := K) rfl (pv 0) rfl) (po_some (pv 2)) po_none))
      (pss_cons (ps_fld (pv 0) (pe_slice (sl_listK (K := K) rfl) (pe_fldK (K := K) rfl (pv 0) rfl) po_none (po_some (pv 2))) rfl)
      (pss_cons (ps_set (i := 4) sc_Machine_call.nd rfl (by first | exact Or.inl rfl | exact Or.inr rfl) (pe_bm0 PySem.F.plainAttrs_list PySem.F.slot_list_pop PySem.F.type_list_pop mt_pop (pe_fldK (K := K) rfl (pv 0) rfl)))
      (pss_one (ps_if (PW.pt (pw_and (pt_cmpR (op_eqK (K := K) rfl hr.units) (pe_ix (ix_seqK (K := K) rfl) (pv 4) pe_int (fun _ _ => rfl)) pe_str (nomark _)) (pw_and1 (pt_cmpR (op_eqK (K := K) rfl hr.units) (pe_callB (call_lenK (K := K) rfl) (by rfl) T.n_len (by decide +kernel) (pa_cons (pe_ix (ix_seqK (K := K) rfl) (pv 4) pe_int (fun _ _ => rfl)) pa_nil)) (pv 1) (nomark _))))) (pss_one (ps_expr (pe_meth (pv 0) T.c_Machine T.m_Machine_enter (ok_Machine_enter T) (hr.mono (by first | decide | omega)) T.b_Machine_enter .nil pass0 (pa_cons (pv 4) (pa_cons (pv 3) pa_nil))))) (pss_one (ps_if (PW.pt (pw_and (pt_cmpR (op_eqK (K := K) rfl hr.units) (pe_ix (ix_seqK (K := K) rfl) (pv 4) pe_int (fun _ _ => rfl)) pe_str (nomark _)) (pw_and (pt_cmpR (op_eqK (K := K) rfl hr.units) (pv 1) pe_int (nomark _)) (pw_and (pt_cmpR (op_eqK (K := K) rfl hr.units) (pe_ix (ix_seqK (K := K) rfl) (pe_ix (ix_seqK (K := K) rfl) (pv 3) pe_int (fun _ _ => rfl)) pe_int (fun _ _ => rfl)) pe_str (nomark _)) (pw_and1 (pt_cmpR (op_eqK (K := K) rfl hr.units) (pe_ix (ix_seqK (K := K) rfl) (pe_ix (ix_seqK (K := K) rfl) (pv 3) pe_int (fun _ _ => rfl)) pe_int (fun _ _ => rfl)) pe_str (nomark _))))))) (pss_one (ps_expr (pe_bm PySem.F.plainAttrs_list PySem.F.slot_list_append PySem.F.type_list_append mt_append (pe_fldK (K := K) rfl (pv 0) rfl) (pa_cons (pe_tup (pa_cons pe_str (pa_cons (pe_call (ok_reckoned T) (hr.mono (by first | decide | omega)) (by rfl) T.g_reckoned T.F_reckoned.kp T.b_reckoned .nil pass0 (pa_cons (pe_ix (ix_seqK (K := K) rfl) (pv 4) pe_int (fun _ _ => rfl)) (pa_cons (pe_ix (ix_seqK (K := K) rfl) (pe_ix (ix_seqK (K := K) rfl) (pv 3) pe_int (fun _ _ => rfl)) pe_int (fun _ _ => rfl)) (pa_cons (pe_ix (ix_seqK (K := K) rfl) (pe_ix (ix_seqK (K := K) rfl) (pv 3) pe_int (fun _ _ => rfl)) pe_int (fun _ _ => rfl)) pa_nil)))) pa_nil))) pa_nil)))) (pss_one (ps_fld (pv 0) pe_str rfl)))))))))), fun xs ω Ψ h => ?_⟩
  have hu := hu_of hr
  try dsimp only [L2.Cx.nox, L2.Cx.wish, L2.cxOf]
  cases h with
  | @mk ω l m n v us F h0 hf hn h1 h3 h4 =>
  subst hn
  have M := mc_of T
  show ExS K _ ⟨[.loc l, .dat (.int us.length), .no, .no, .no], ω⟩ _
  have hr : m.found.reverse.map Val.dat = ((v :: F).reverse.map Val.dat) ++ us.map Val.dat := by
    rw [hf]
    simp
  have hlen : ((v :: F).reverse.map Val.dat).length = F.length + 1 := by simp
  have hF : m.found.length = us.length + F.length + 1 := by rw [hf]; simp; omega
  refine ex_setM (evm_is (b := .int (F.length + 1 : Nat)) (evm_op (evm_cb (evms_cons (ev_found M h0 rfl) evms_nil) (.inl rc_lenK)) (evm_var rfl) (.inl rd_I0)) ?_) rfl ?_
  · congr 1
    rw [hr, List.length_append, hlen, List.length_map]
    omega
  show ExS K _ ⟨[.loc l, .dat (.int us.length), .dat (.int (F.length + 1 : Nat)), .no, .no], ω⟩ _
  apply ex_setN
  · refine evn_is (evn_foundSl M h0 rfl (evo_someM (evm_var rfl)) evo_none) (b := us.map Val.dat) ?_
    rw [hr, ← hlen]
    exact cut_hi
  refine ex_stand (i := 3) rfl ?_
  show ExS K _ ⟨[.loc l, .dat (.int us.length), .dat (.int (F.length + 1 : Nat)), .dat (.lst (us.map Val.dat)), .no], ω⟩ _
  refine ex_newFound M h0 rfl (v :: F) (evn_foundSl M h0 rfl evo_none (evo_someM (evm_var rfl))) ?_ fun ω1 h5 => ?_
  · rw [hr, ← hlen]
    exact cut_lo
  refine ex_popFound M h5 rfl rfl fun ω2 h6 => ?_
  show ExS K _ ⟨[.loc l, .dat (.int us.length), .dat (.int (F.length + 1 : Nat)), .dat (.lst (us.map Val.dat)), .dat v.dat], ω2⟩ _
  cases v with
  | num n =>
    rw [show (Val.num n).dat = .tup [.str "num", .int n] by simp only [Val.dat]]
    apply ex_if (b := false)
    · exact evt_is (evt_and (a := false) (b := false) (evt_is (evt_testM (evm_op (evm_op (evm_var rfl) evm_int (.inl (rd_ixT rfl))) evm_str (.inl rd_eq_str))) (by decide)) fun e => by cases e) rfl
    · intro e; cases e
    · intro _
      apply ex_if (b := false)
      · exact evt_is (evt_and (a := false) (b := false) (evt_is (evt_testM (evm_op (evm_op (evm_var rfl) evm_int (.inl (rd_ixT rfl))) evm_str (.inl rd_eq_str))) (by decide)) fun e => by cases e) rfl
      · intro e; cases e
      · intro _
        apply ex_one
        exact ex_stop M h6 rfl fun ω' h' => ex_next ⟨rfl, h'⟩
  | fn ps b ks vs =>
    have hk := h4 ps b ks vs rfl
    rw [show (Val.fn ps b ks vs).dat = .tup [.str "fn", .tup (ps.map parD), b.dat, envD ks vs] by simp only [Val.dat, envD, valsD_map]]
    apply ex_if (b := (ps.length : Int) == (us.length : Int))
    · refine evt_is (evt_and (a := true) (evt_is (evt_testM (evm_op (evm_op (evm_var rfl) evm_int (.inl (rd_ixT rfl))) evm_str (.inl rd_eq_str))) (by decide)) fun _ => evt_testM (evm_op (evm_cb (evms_cons (evm_op (evm_var rfl) evm_int (.inl (rd_ixT rfl))) evms_nil) (.inl rc_lenTK)) (evm_var rfl) (.inl rd_eq_int))) ?_
      rw [List.length_map]
      rfl
    · intro e
      have e' : ps.length = us.length := Int.ofNat.inj (by simpa using e)
      apply ex_one
      refine ex_methM h6 rfl (fun _ _ _ _ _ => no_meth (by decide) (by decide) (by decide) (by decide) (by decide)) (ds := [(Val.fn ps b ks vs).dat, .lst (us.map Val.dat)]) (eva_cons ?_ (eva_cons (evd_var rfl) eva_nil)) (.mk h6 e' h3 hk) fun ω' h' => ex_next ⟨rfl, ?_⟩
      · rw [show (Val.fn ps b ks vs).dat = .tup [.str "fn", .tup (ps.map parD), b.dat, envD ks vs] by simp only [Val.dat, envD, valsD_map]]
        exact evd_var rfl
      · simp only [callM, if_pos e']
        exact h'
    · intro e
      have e' : ¬ ps.length = us.length := fun z => by simp [z] at e
      apply ex_if (b := false)
      · exact evt_is (evt_and (a := false) (b := false) (evt_is (evt_testM (evm_op (evm_op (evm_var rfl) evm_int (.inl (rd_ixT rfl))) evm_str (.inl rd_eq_str))) (by decide)) fun e => by cases e) rfl
      · intro e; cases e
      · intro _
        apply ex_one
        refine ex_stop M h6 rfl fun ω' h' => ex_next ⟨rfl, ?_⟩
        simp only [callM, if_neg e']
        exact h'
  | op x =>
    rw [show (Val.op x).dat = .tup [.str "op", .str x] by simp only [Val.dat]]
    apply ex_if (b := false)
    · exact evt_is (evt_and (a := false) (b := false) (evt_is (evt_testM (evm_op (evm_op (evm_var rfl) evm_int (.inl (rd_ixT rfl))) evm_str (.inl rd_eq_str))) (by decide)) fun e => by cases e) rfl
    · intro e; cases e
    · intro _
      have stuck : (∀ a b, us ≠ [.num a, .num b]) → ∀ {ω3}, MAt T.C_Machine ω3 l { m with found := F } → ExS K (tSeq (sFld K (tVar 0) (tC (.str "stuck")) "ended") tNext) ⟨[.loc l, .dat (.int us.length), .dat (.int (F.length + 1 : Nat)), .dat (.lst (us.map Val.dat)), .dat (.tup [.str "op", .str x])], ω3⟩ (DoneX (After1 T.C_Machine l (callM { m with found := F } us (.op x)))) := fun hu ω3 h7 => by
        refine ex_stop M h7 rfl fun ω' h' => ex_next ⟨rfl, ?_⟩
        have e : callM { m with found := F } us (.op x) = MSt.stop { m with found := F } "stuck" := by
          show (match us with | [.num a, .num b] => _ | _ => _) = _
          split
          · exact absurd rfl (hu _ _)
          · rfl
        rw [e]
        exact h'
      have t0 : EvT K _ ⟨[.loc l, .dat (.int us.length), .dat (.int (F.length + 1 : Nat)), .dat (.lst (us.map Val.dat)), .dat (.tup [.str "op", .str x])], ω2⟩ true := evt_is (evt_testM (evm_op (evm_op (evm_var (i := 4) rfl) (evm_int (i := 0)) (.inl (rd_ixT rfl))) (evm_str (i := "op")) (.inl rd_eq_str))) (by decide)
      by_cases h2 : us.length = 2
      · obtain ⟨u1, u2, rfl⟩ : ∃ u1 u2, us = [u1, u2] := by
          match us, h2 with
          | [a, b], _ => exact ⟨a, b, rfl⟩
        have t1 : EvT K _ ⟨[.loc l, .dat (.int (2 : Nat)), .dat (.int (F.length + 1 : Nat)), .dat (.lst [u1.dat, u2.dat]), .dat (.tup [.str "op", .str x])], ω2⟩ true := evt_is (evt_testM (evm_op (evm_var (i := 1) rfl) (evm_int (i := 2)) (.inl rd_eq_int))) (by decide)
        apply ex_if (b := u1.isNum && u2.isNum)
        · refine evt_is (evt_and t0 fun _ => evt_and t1 fun _ => evt_and (a := u1.isNum) (b := u2.isNum) ?_ fun _ => ?_) (b := u1.isNum && u2.isNum) (by simp)
          · exact evt_head (evm_op (evm_var rfl) evm_int (.inl (rd_ixL rfl)))
          · exact evt_head (evm_op (evm_var rfl) evm_int (.inl (rd_ixL rfl)))
        · intro e
          rw [Bool.and_eq_true] at e
          obtain ⟨a, rfl⟩ := Val.isNum_num e.1
          obtain ⟨b, rfl⟩ := Val.isNum_num e.2
          apply ex_one
          refine ex_found M h6 rfl (v := .num (reck x a b)) ?_ (by simp only; rw [hF] at h1; omega) fun ω' h' => ex_next ⟨rfl, h'⟩
          rw [show (Val.num (reck x a b)).dat = .tup [.str "num", .int (reck x a b)] by simp only [Val.dat]]
          show EvD K _ ⟨[.loc l, .dat (.int (2 : Nat)), .dat (.int (F.length + 1 : Nat)), .dat (.lst [(Val.num a).dat, (Val.num b).dat]), .dat (.tup [.str "op", .str x])], ω2⟩ _
          rw [show (Val.num a).dat = .tup [.str "num", .int a] by simp only [Val.dat], show (Val.num b).dat = .tup [.str "num", .int b] by simp only [Val.dat]]
          refine evd_tup (eva_cons evd_str (eva_cons (EvM.toD (evm_call (evms_cons (evm_op (evm_var rfl) evm_int (.inl (rd_ixT rfl))) (evms_cons (evm_op (evm_op (evm_var rfl) evm_int (.inl (rd_ixL rfl))) evm_int (.inl (rd_ixT rfl))) (evms_cons (evm_op (evm_op (evm_var rfl) evm_int (.inl (rd_ixL rfl))) evm_int (.inl (rd_ixT rfl))) evms_nil))) (.dat .mk)) rfl) eva_nil)) (by simp)
        · intro e
          apply ex_one
          refine stuck (fun a b z => ?_) h6
          cases z
          simp [Val.isNum] at e
      · apply ex_if (b := false)
        · refine evt_is (evt_and t0 fun _ => evt_and (a := false) (b := false) (evt_is (evt_testM (evm_op (evm_var rfl) evm_int (.inl rd_eq_int))) ?_) fun e => by cases e) rfl
          rw [beq_eq_false_iff_ne]
          omega
        · intro e; cases e
        · intro _
          apply ex_one
          refine stuck (fun a b z => ?_) h6
          subst z
          exact h2 rfl
theorem ok_value_of (T : Tx K mg) : FnOk P w K mg base CX0 3 T.a_value_of T.d_value_of ["machine", "core"] (spX K (P_value_of T.C_Machine)) := by
  refine ok_defX (rule_fun T.F_value_of) sc_value_of (fun xs ω Ψ h => by cases h <;> rfl) fun cdv A outer s H E hr => ⟨_, (pss_cons (ps_fld (pv 0) (pe_lst (pa_cons (pe_tup (pa_cons pe_str (pa_cons (pv 1) (pa_cons pe_dnewK pa_nil)))) pa_nil)) rfl)
      (pss_cons (ps_fld (pv 0) (pe_lst pa_nil) rfl)
      (pss_cons (ps_while PassesOwn.never (PW.pt (pw_and (pt_cmpR op_gt (pe_callB (call_lenK (K := K) rfl) (by rfl) T.n_len (by decide +kernel) (pa_cons (pe_fldK (K := K) rfl (pv 0) rfl) pa_nil)) pe_int (nomark _)) (pw_and1 (pt_cmpR op_isN (pe_fldK (K := K) rfl (pv 0) rfl) pe_non (nomark _))))) (pss_cons (ps_set (i := 2) sc_value_of.nd rfl (by first | exact Or.inl rfl | exact Or.inr rfl) (pe_bm0 PySem.F.plainAttrs_list PySem.F.slot_list_pop PySem.F.type_list_pop mt_pop (pe_fldK (K := K) rfl (pv 0) rfl)))
      (pss_one (ps_if (pt_cmpR (op_eqK (K := K) rfl hr.units) (pe_ix (ix_seqK (K := K) rfl) (pv 2) pe_int (fun _ _ => rfl)) pe_str (nomark _)) (pss_one (ps_expr (pe_meth (pv 0) T.c_Machine T.m_Machine_come (ok_Machine_come T) (hr.mono (by first | decide | omega)) T.b_Machine_come .nil pass0 (pa_cons (pe_ix (ix_seqK (K := K) rfl) (pv 2) pe_int (fun _ _ => rfl)) (pa_cons (pe_ix (ix_seqK (K := K) rfl) (pv 2) pe_int (fun _ _ => rfl)) pa_nil))))) (pss_one (ps_if (pt_cmpR (op_eqK (K := K) rfl hr.units) (pe_ix (ix_seqK (K := K) rfl) (pv 2) pe_int (fun _ _ => rfl)) pe_str (nomark _)) (pss_one (ps_expr (pe_meth (pv 0) T.c_Machine T.m_Machine_choose (ok_Machine_choose T) (hr.mono (by first | decide | omega)) T.b_Machine_choose .nil pass0 (pa_cons (pe_ix (ix_seqK (K := K) rfl) (pv 2) pe_int (fun _ _ => rfl)) (pa_cons (pe_ix (ix_seqK (K := K) rfl) (pv 2) pe_int (fun _ _ => rfl)) (pa_cons (pe_ix (ix_seqK (K := K) rfl) (pv 2) pe_int (fun _ _ => rfl)) pa_nil)))))) (pss_one (ps_expr (pe_meth (pv 0) T.c_Machine T.m_Machine_call (ok_Machine_call T) (hr.mono (by first | decide | omega)) T.b_Machine_call .nil pass0 (pa_cons (pe_ix (ix_seqK (K := K) rfl) (pv 2) pe_int (fun _ _ => rfl)) pa_nil))))))))))
      (pss_cons (ps_if (pt_cmpR op_notN (pe_fldK (K := K) rfl (pv 0) rfl) pe_non (nomark _)) (pss_one (ps_ret pe_non)) pss_nil)
      (pss_one (ps_ret (pe_ix (ix_seqK (K := K) rfl) (pe_fldK (K := K) rfl (pv 0) rfl) pe_int (fun _ _ => rfl)))))))), fun xs ω Ψ h => ?_⟩
  have hu := hu_of hr
  try dsimp only [L2.Cx.nox, L2.Cx.wish, L2.cxOf]
  cases h with
  | @mk ω l m m' c h0 he n hr hd =>
  have M := mc_of T
  show ExS K _ ⟨[.loc l, .dat c.dat, .no], ω⟩ _
  refine ex_newTodo M h0 rfl [.core c [] []] (evn_lst (eva_cons (evd_tup (eva_cons evd_str (eva_cons (evd_var rfl) (eva_cons (EvND.toD evnd_new) eva_nil))) (by simp)) eva_nil) (by simp)) (by simp [Task.dat, envD]) fun ω1 h1 => ?_
  refine ex_newFound M h1 rfl [] (evn_lst eva_nil) rfl fun ω2 h2 => ?_
  refine ex_while (fun k ε => ∃ ω3 mk x, ε = ⟨[.loc l, .dat c.dat, x], ω3⟩ ∧ MAt T.C_Machine ω3 l mk ∧ Runs k mk m') n ⟨ω2, _, .no, rfl, h2, hr⟩ ?_
  rintro k _ ⟨ω3, mk, x, rfl, h3, hk⟩
  refine ⟨decide (0 < mk.todo.length) && mk.ended.isNone, ?_, fun e => ?_, fun e => ?_⟩
  · refine evt_is (evt_and (evt_testM (evm_op (evm_cb (evms_cons (ev_todo M h3 rfl) evms_nil) (.inl rc_lenK)) evm_int (.inl rd_B0))) fun _ => evt_testM (evm_op (ev_ended M h3 rfl) evm_non (.inl rd_isN))) ?_
    rw [endD_non]
    simp
  · rw [Bool.and_eq_true, decide_eq_true_eq] at e
    cases hk with
    | nil =>
      rcases hd with hd | ⟨hd, _⟩
      · exact absurd (by simpa using e.2) hd
      · rw [hd] at e
        exact absurd e.1 (by simp)
    | @cons k _ mb _ t1 hk =>
      cases t1 with
      | @come c2 ks vs r hc ht q1 q2 q3 =>
        refine ex_popTodo M h3 rfl ht fun ω4 h4 => ?_
        rw [show (Task.core c2 ks vs).dat = .tup [.str "core", c2.dat, envD ks vs] by simp only [Task.dat]]
        show ExS K _ ⟨[.loc l, .dat c.dat, .dat (.tup [.str "core", c2.dat, envD ks vs])], ω4⟩ _
        apply ex_if (b := true)
        · exact evt_is (evt_testM (evm_op (evm_op (evm_var rfl) evm_int (.inl (rd_ixT rfl))) evm_str (.inl rd_eq_str))) (by decide)
        · intro _
          apply ex_one
          exact ex_methM h4 rfl (fun _ _ _ _ _ => no_meth (by decide) (by decide) (by decide) (by decide) (by decide)) (ds := [c2.dat, envD ks vs]) (eva_cons (EvM.toD (evm_op (evm_var rfl) evm_int (.inl (rd_ixT rfl))) rfl) (eva_cons (EvM.toD (evm_op (evm_var rfl) evm_int (.inl (rd_ixT rfl))) rfl) eva_nil)) (.mk h4 q1 q2 q3) fun ω' h' => ex_next ⟨k, Nat.lt_succ_self k, ω', _, _, rfl, h', hk⟩
        · intro z; cases z
      | @pick b2 c2 ks vs r v F hc ht hf q3 =>
        refine ex_popTodo M h3 rfl ht fun ω4 h4 => ?_
        rw [show (Task.pick b2 c2 ks vs).dat = .tup [.str "pick", b2.dat, c2.dat, envD ks vs] by simp only [Task.dat]]
        show ExS K _ ⟨[.loc l, .dat c.dat, .dat (.tup [.str "pick", b2.dat, c2.dat, envD ks vs])], ω4⟩ _
        apply ex_if (b := false)
        · exact evt_is (evt_testM (evm_op (evm_op (evm_var rfl) evm_int (.inl (rd_ixT rfl))) evm_str (.inl rd_eq_str))) (by decide)
        · intro z; cases z
        · intro _
          apply ex_if (b := true)
          · exact evt_is (evt_testM (evm_op (evm_op (evm_var rfl) evm_int (.inl (rd_ixT rfl))) evm_str (.inl rd_eq_str))) (by decide)
          · intro _
            apply ex_one
            exact ex_methM h4 rfl (fun _ _ _ _ _ => no_meth (by decide) (by decide) (by decide) (by decide) (by decide)) (ds := [b2.dat, c2.dat, envD ks vs]) (eva_cons (EvM.toD (evm_op (evm_var rfl) evm_int (.inl (rd_ixT rfl))) rfl) (eva_cons (EvM.toD (evm_op (evm_var rfl) evm_int (.inl (rd_ixT rfl))) rfl) (eva_cons (EvM.toD (evm_op (evm_var rfl) evm_int (.inl (rd_ixT rfl))) rfl) eva_nil))) (.mk (F := F) h4 hf q3) fun ω' h' => ex_next ⟨k, Nat.lt_succ_self k, ω', _, _, rfl, h', hk⟩
          · intro z; cases z
      | @call n2 r v us F hc ht hf hn q1 q3 q4 =>
        refine ex_popTodo M h3 rfl ht fun ω4 h4 => ?_
        rw [show (Task.call n2).dat = .tup [.str "call", .int n2] by simp only [Task.dat]]
        show ExS K _ ⟨[.loc l, .dat c.dat, .dat (.tup [.str "call", .int n2])], ω4⟩ _
        apply ex_if (b := false)
        · exact evt_is (evt_testM (evm_op (evm_op (evm_var rfl) evm_int (.inl (rd_ixT rfl))) evm_str (.inl rd_eq_str))) (by decide)
        · intro z; cases z
        · intro _
          apply ex_if (b := false)
          · exact evt_is (evt_testM (evm_op (evm_op (evm_var rfl) evm_int (.inl (rd_ixT rfl))) evm_str (.inl rd_eq_str))) (by decide)
          · intro z; cases z
          · intro _
            apply ex_one
            exact ex_methM h4 rfl (fun _ _ _ _ _ => no_meth (by decide) (by decide) (by decide) (by decide) (by decide)) (ds := [.int n2]) (eva_cons (EvM.toD (evm_op (evm_var rfl) evm_int (.inl (rd_ixT rfl))) rfl) eva_nil) (.mk (F := F) h4 hf hn q1 q3 q4) fun ω' h' => ex_next ⟨k, Nat.lt_succ_self k, ω', _, _, rfl, h', hk⟩
  · have ek : mk = m' := by
      cases hk with
      | nil => rfl
      | cons t1 _ =>
        have : mk.todo ≠ [] ∧ mk.ended = none := by
          cases t1 with
          | come hc ht _ _ _ => exact ⟨by rw [ht]; simp, hc⟩
          | pick hc ht _ _ => exact ⟨by rw [ht]; simp, hc⟩
          | call hc ht _ _ _ _ _ => exact ⟨by rw [ht]; simp, hc⟩
        rw [this.2, Option.isNone_none, Bool.and_true, decide_eq_false_iff_not] at e
        exact absurd (List.length_pos_iff.mpr this.1) e
    subst ek
    generalize x = x0
    apply ex_ifs (b := !mk.ended.isNone)
    · refine evt_is (evt_testM (evm_op (ev_ended M h3 rfl) evm_non (.inl rd_notN))) ?_
      rw [endD_non]
    · intro e2
      apply ex_left
      refine ex_retY (Ψ := fun x e => x = .dat .non ∧ e = ⟨[.loc l, .dat c.dat, x0], ω3⟩) (evy_d evd_non ⟨rfl, rfl⟩) ?_
      rintro _ _ ⟨rfl, rfl⟩
      exact ⟨h3, .inl ⟨(by intro z; rw [z] at e2; cases e2), rfl⟩⟩
    · intro e2
      apply ex_seqN
      have en : mk.ended = none := by simpa using e2
      rcases hd with hd | ⟨_, v, hv⟩
      · exact absurd en hd
      · refine ex_retY (Ψ := fun x e => x = .dat v.dat ∧ e = ⟨[.loc l, .dat c.dat, x0], ω3⟩) (evy_d ((ev_found0 M h3 rfl hv).toD rfl) ⟨rfl, rfl⟩) ?_
        rintro _ _ ⟨rfl, rfl⟩
        exact ⟨h3, .inr ⟨en, v, hv, rfl⟩⟩
theorem ok_answer (T : Tx K mg) : FnOk P w K mg base CX0 1 T.a_answer T.d_answer ["value"] (spF K (P_answer)) := by
  refine ok_def (rule_fun T.F_answer) sc_answer (fun ds r h => by cases h <;> rfl) fun cdv A outer s H E hr => ⟨_, (pss_cons (ps_if (pt_cmpR (op_eqK (K := K) rfl hr.units) (pe_ix (ix_seqK (K := K) rfl) (pv 0) pe_int (fun _ _ => rfl)) pe_str (nomark _)) (pss_one (ps_ret (pe_tup (pa_cons pe_str (pa_cons (pe_callB (call_lenK (K := K) rfl) (by rfl) T.n_len (by decide +kernel) (pa_cons (pe_ix (ix_seqK (K := K) rfl) (pv 0) pe_int (fun _ _ => rfl)) pa_nil)) pa_nil))))) pss_nil)
      (pss_one (ps_ret (pe_tup (pa_cons (pe_ix (ix_seqK (K := K) rfl) (pv 0) pe_int (fun _ _ => rfl)) (pa_cons (pe_ix (ix_seqK (K := K) rfl) (pv 0) pe_int (fun _ _ => rfl)) pa_nil)))))), fun ds r h => ?_⟩
  have hu := hu_of hr
  try dsimp only [L2.Cx.nox, L2.Cx.wish, L2.cxOf]
  cases h with
  | @mk v =>
  cases v with
  | num n =>
    rw [show (Val.num n).dat = .tup [.str "num", .int n] by simp only [Val.dat]]
    apply ex_ifs (b := false)
    · exact evt_is (evt_testM (evm_op (evm_op (evm_var rfl) evm_int (.inl (rd_ixT rfl))) evm_str (.inl rd_eq_str))) (by decide)
    · intro z; cases z
    · intro _
      apply ex_seqN
      refine ex_retM (evm_tup (evms_cons (evm_op (evm_var rfl) evm_int (.inl (rd_ixT rfl))) (evms_cons (evm_op (evm_var rfl) evm_int (.inl (rd_ixT rfl))) evms_nil)) (by simp)) rfl ?_
      show Res.dat _ = Res.dat _
      rfl
  | op x =>
    rw [show (Val.op x).dat = .tup [.str "op", .str x] by simp only [Val.dat]]
    apply ex_ifs (b := false)
    · exact evt_is (evt_testM (evm_op (evm_op (evm_var rfl) evm_int (.inl (rd_ixT rfl))) evm_str (.inl rd_eq_str))) (by decide)
    · intro z; cases z
    · intro _
      apply ex_seqN
      refine ex_retM (evm_tup (evms_cons (evm_op (evm_var rfl) evm_int (.inl (rd_ixT rfl))) (evms_cons (evm_op (evm_var rfl) evm_int (.inl (rd_ixT rfl))) evms_nil)) (by simp)) rfl ?_
      show Res.dat _ = Res.dat _
      rfl
  | fn ps b ks vs =>
    rw [show (Val.fn ps b ks vs).dat = .tup [.str "fn", .tup (ps.map parD), b.dat, envD ks vs] by simp only [Val.dat, envD, valsD_map]]
    apply ex_ifs (b := true)
    · exact evt_is (evt_testM (evm_op (evm_op (evm_var rfl) evm_int (.inl (rd_ixT rfl))) evm_str (.inl rd_eq_str))) (by decide)
    · intro _
      apply ex_left
      refine ex_retM (evm_tup (evms_cons evm_str (evms_cons (evm_cb (evms_cons (evm_op (evm_var rfl) evm_int (.inl (rd_ixT rfl))) evms_nil) (.inl rc_lenTK)) evms_nil)) (by simp)) rfl ?_
      show Res.dat _ = Res.dat _
      rw [List.length_map]
      rfl
    · intro z; cases z
theorem ok_run (T : Tx K mg) : FnOk P w K mg base CX0 4 T.a_run T.d_run ["items", "fuel"] (spF K (P_run)) := by
  refine ok_def (rule_funD T.F_run) sc_run (fun ds r h => by cases h <;> rfl) fun cdv A outer s H E hr => ⟨_, (pss_cons (ps_set (i := 2) sc_run.nd rfl (by first | exact Or.inl rfl | exact Or.inr rfl) (pe_make T.M_Machine (ok_Machine___init__ T) (hr.mono (by first | decide | omega)) (by rfl) T.g_Machine T.b_Machine___init__ .nil pass0 (pa_cons (pv 1) pa_nil)))
      (pss_cons (ps_set (i := 3) sc_run.nd rfl (by first | exact Or.inl rfl | exact Or.inr rfl) (pe_lst pa_nil))
      (pss_cons (ps_for PassesOwn.never rfl (pi_listK (K := K) rfl (pv 0)) (pg_name (i := 4) sc_run.nd rfl (by first | exact Or.inl rfl | exact Or.inr rfl)) (pss_cons (ps_set (i := 5) sc_run.nd rfl (by first | exact Or.inl rfl | exact Or.inr rfl) (pe_call (ok_value_of T) (hr.mono (by first | decide | omega)) (by rfl) T.g_value_of T.F_value_of.kp T.b_value_of .nil pass0 (pa_cons (pv 2) (pa_cons (pe_ix (ix_seqK (K := K) rfl) (pv 4) (pe_un un_neg pe_int) (fun _ _ => rfl)) pa_nil))))
      (pss_cons (ps_if (pt_cmpR op_isN (pv 5) pe_non (nomark _)) (pss_cons (ps_expr (pe_bm PySem.F.plainAttrs_list PySem.F.slot_list_append PySem.F.type_list_append mt_append (pv 3) (pa_cons (pe_tup (pa_cons (pe_fldK (K := K) rfl (pv 2) rfl) pa_nil)) pa_nil)))
      (pss_one (ps_ret (pv 3)))) pss_nil)
      (pss_one (ps_if (pt_cmpR (op_eqK (K := K) rfl hr.units) (pe_ix (ix_seqK (K := K) rfl) (pv 4) pe_int (fun _ _ => rfl)) pe_str (nomark _)) (pss_one (ps_dput (hu_of hr) (pe_fldK (K := K) rfl (pv 2) rfl) (pe_ix (ix_seqK (K := K) rfl) (pv 4) pe_int (fun _ _ => rfl)) (pv 5) rfl)) (pss_one (ps_expr (pe_bm PySem.F.plainAttrs_list PySem.F.slot_list_append PySem.F.type_list_append mt_append (pv 3) (pa_cons (pe_call (ok_answer T) (hr.mono (by first | decide | omega)) (by rfl) T.g_answer T.F_answer.kp T.b_answer .nil pass0 (pa_cons (pv 5) pa_nil)) pa_nil)))))))))
      (pss_one (ps_ret (pv 3)))))), fun ds r h => ?_⟩
  have hu := hu_of hr
  try dsimp only [L2.Cx.nox, L2.Cx.wish, L2.cxOf]
  cases h with
  | @mk is k r h0 hl =>
  have M := mc_of T
  show ExS K _ ⟨[.dat (.lst (is.map Item.dat)), .dat (.int k), .no, .no, .no, .no], []⟩ _
  refine ex_setY (Ψ := fun x e => x = .loc 0 ∧ ∃ ω, e = ⟨[.dat (.lst (is.map Item.dat)), .dat (.int k), .no, .no, .no, .no], ω⟩ ∧ MAt T.C_Machine ω 0 ⟨[], [], k, [], [], none⟩)
    (evy_make (Ψa := fun xs e => xs = [.dat (.int k)] ∧ e = ⟨[.dat (.lst (is.map Item.dat)), .dat (.int k), .no, .no, .no, .no], []⟩) (evys_d (ds := [.int k]) (eva_cons (evd_var rfl) eva_nil) ⟨rfl, rfl⟩) fun xs e p => ?_) fun x e p => ?_
  · obtain ⟨rfl, rfl⟩ := p
    exact ⟨_, .mk rfl, fun x ω' q => ⟨q.1, rfl, ω', rfl, q.2⟩⟩
  obtain ⟨rfl, ω, rfl, h1⟩ := p
  apply ex_setN
  · exact evn_lst eva_nil
  show ExS K _ ⟨[.dat (.lst (is.map Item.dat)), .dat (.int k), .loc 0, .own [], .no, .no], ω⟩ _
  refine ex_for1 (j := 4) (ds := is.map Item.dat) (fun i ε => ∃ ω2 m k2 pre r2 x y, ε = ⟨[.dat (.lst (is.map Item.dat)), .dat (.int k), .loc 0, .own pre, x, y], ω2⟩ ∧ MAt T.C_Machine ω2 0 m ∧ m.left = (k2 : Nat) ∧ m.ended = none ∧ m.tk.Nodup ∧ m.tk.length = m.tv.length ∧ RunI m.tk m.tv k2 (is.drop i) r2 ∧ r = pre ++ r2 ∧ pre.length ≤ i)
    (evw_list (evd_var rfl)) ⟨ω, _, k, [], r, .no, .no, rfl, h1, rfl, rfl, List.nodup_nil, rfl, h0, rfl, Nat.le_refl _⟩ ?_ ?_
  · rintro i d _ hd ⟨ω2, m, k2, pre, r2, x, y, rfl, h2, hm, he, nd, tl, hI, hr2, hp⟩
    have hi : i < is.length := by
      have := (List.getElem?_eq_some_iff.mp hd).1
      simpa using this
    have hd' : d = (is[i]).dat := by
      rw [List.getElem?_map, List.getElem?_eq_getElem hi] at hd
      simpa using hd.symm
    subst hd'
    have hdr : is.drop i = is[i] :: is.drop (i + 1) := List.drop_eq_getElem_cons hi
    rw [hdr] at hI
    generalize is[i] = it at hI
    show ExS K _ ⟨[.dat (.lst (is.map Item.dat)), .dat (.int k), .loc 0, .own pre, .dat it.dat, y], ω2⟩ _
    have mm : ∀ {c : Core} {a : Ans} {k' d : Nat}, Ev m.tk m.tv k2 (.one [] [] c) a k' d → d < 16000000 → ∃ n m', Runs n { m with todo := [.core c [] []], found := [] } m' ∧ AnsAt m.tk m.tv k' [] [] m' a := fun {c a k' d} ev hd => by
      obtain ⟨m', ⟨n, hn⟩, ha⟩ := ev_runs ev [] [] (by simp; omega) (by simp; omega) (fun _ _ z => by cases z) (fun _ _ _ z => by cases z)
      refine ⟨n, m', ?_, ha⟩
      have e : ({ m with todo := [.core c [] []], found := [] } : MSt) = ⟨m.tk, m.tv, k2, [.core c [] []], [], none⟩ := by rw [← hm, ← he]
      rw [e]
      exact hn
    have core : ∃ c, atI (match it with | .dfn p x c => [Dat.str "def", .int p, .str x, c.dat] | .shw c => [Dat.str "show", c.dat]) (-1) = some c.dat ∧ it.core = c := by
      cases it with
      | dfn p x c => exact ⟨c, rfl, rfl⟩
      | shw c => exact ⟨c, rfl, rfl⟩
    have go : ∀ {a : Ans} {k' d : Nat}, Ev m.tk m.tv k2 (.one [] [] it.core) a k' d → d < 16000000 → (∀ us, a ≠ .vals us) →
        ∀ {u : TS} {Φ : Out → Prop}, (∀ ω3 m3, MAt T.C_Machine ω3 0 m3 → m3.left = (k' : Nat) → m3.tk = m.tk → m3.tv = m.tv → m3.ended = finOf a → ExS K u ⟨[.dat (.lst (is.map Item.dat)), .dat (.int k), .loc 0, .own pre, .dat it.dat, .dat (ValAns a)], ω3⟩ Φ) →
        ∀ {te : TE}, EvD K te ⟨[.dat (.lst (is.map Item.dat)), .dat (.int k), .loc 0, .own pre, .dat it.dat, y], ω2⟩ it.core.dat → ∀ {E : XK}, ExS K (tSeq (tAsg (tCall (spX K (P_value_of T.C_Machine)) [] E (tCons (tVar 2) (tCons te tNil))) (gName 5)) u) ⟨[.dat (.lst (is.map Item.dat)), .dat (.int k), .loc 0, .own pre, .dat it.dat, y], ω2⟩ Φ := fun {a k' d} ev hd ha {u Φ} kk {te} hte {E} => by
      obtain ⟨n, m', hrun, hans⟩ := mm ev hd
      refine ex_setY (Ψ := fun x e => ∃ ω3 m3, e = ⟨[.dat (.lst (is.map Item.dat)), .dat (.int k), .loc 0, .own pre, .dat it.dat, y], ω3⟩ ∧ MAt T.C_Machine ω3 0 m3 ∧ m3.left = (k' : Nat) ∧ m3.tk = m.tk ∧ m3.tv = m.tv ∧ m3.ended = finOf a ∧ x = .dat (ValAns a))
        (evy_call (Ψa := fun xs e => xs = [.loc 0, .dat it.core.dat] ∧ e = ⟨[.dat (.lst (is.map Item.dat)), .dat (.int k), .loc 0, .own pre, .dat it.dat, y], ω2⟩) (evys_cons (Ψ := fun x e => x = .loc 0 ∧ e = ⟨[.dat (.lst (is.map Item.dat)), .dat (.int k), .loc 0, .own pre, .dat it.dat, y], ω2⟩) (evy_l (evl_var rfl) ⟨rfl, rfl⟩) fun x e p => ?_) fun xs e p => ?_) fun x e p => ?_
      · obtain ⟨rfl, rfl⟩ := p
        exact evys_d (ds := [it.core.dat]) (eva_cons hte eva_nil) ⟨rfl, rfl⟩
      · obtain ⟨rfl, rfl⟩ := p
        cases a with
        | vals us => exact absurd rfl (ha us)
        | val v =>
          cases hans
          refine ⟨_, .mk h2 he hrun (.inr ⟨rfl, v, rfl⟩), fun x ω3 q => ?_⟩
          obtain ⟨q1, q2 | ⟨_, w, e1, e2⟩⟩ := q
          · exact absurd rfl q2.1
          · cases e1
            exact ⟨ω3, _, rfl, q1, rfl, rfl, rfl, rfl, e2⟩
        | fin s =>
          obtain ⟨e1, e2, e3, e4⟩ := hans
          refine ⟨_, .mk h2 he hrun (.inl (by rw [e1]; simp)), fun x ω3 q => ?_⟩
          obtain ⟨q1, q2 | q2⟩ := q
          · exact ⟨ω3, _, rfl, q1, e2, e3, e4, e1, q2.2⟩
          · rw [e1] at q2
            cases q2.1
      · obtain ⟨ω3, m3, rfl, q1, q2, q3, q4, q5, rfl⟩ := p
        exact kk ω3 m3 q1 q2 q3 q4 q5
    cases hI with
    | @dfn _ _ _ k3 d3 p x c _ v r3 ev hd3 hs hI =>
      refine go ev hd3 (fun us z => by cases z) (fun ω3 m3 q1 q2 q3 q4 q5 => ?_) (EvM.toD (evm_op (evm_var rfl) (evm_neg evm_int) (.inl (rd_ixT rfl))) rfl)
      show ExS K _ ⟨[.dat (.lst (is.map Item.dat)), .dat (.int k), .loc 0, .own pre, .dat (.tup [.str "def", .int p, .str x, c.dat]), .dat v.dat], ω3⟩ _
      apply ex_ifs (b := false)
      · exact evt_is (evt_testM (evm_op (evm_var rfl) evm_non (.inl rd_isN))) (val_non v)
      · intro z; cases z
      · intro _
        apply ex_seqN
        apply ex_if (b := true)
        · exact evt_is (evt_testM (evm_op (evm_op (evm_var rfl) evm_int (.inl (rd_ixT rfl))) evm_str (.inl rd_eq_str))) (by decide)
        · intro _
          apply ex_one
          refine ex_putTops M q1 rfl (p := p) (v := v) (evd_var rfl) (EvM.toH (evm_op (evm_var rfl) evm_int (.inl (rd_ixT rfl)))) (by rw [q3, q4]; exact tl) (by rw [q3]; exact nd) (by rw [q3]; exact hs) fun ω4 h4 => ?_
          apply ex_next
          refine ⟨ω4, _, k3, pre, _, _, _, rfl, h4, q2, q5, ?_, ?_, ?_, hr2, by omega⟩
          · show (pKs m3.tk p).Nodup
            rw [q3]
            exact pKs_nodup nd
          · show (pKs m3.tk p).length = (pVs m3.tk m3.tv p v).length
            rw [q3, q4]
            exact pKs_pVs tl
          · show RunI (pKs m3.tk p) (pVs m3.tk m3.tv p v) _ _ _
            rw [q3, q4]
            exact hI
        · intro z; cases z
    | @shw _ _ _ k3 d3 c _ v r3 ev hd3 hI =>
      refine go ev hd3 (fun us z => by cases z) (fun ω3 m3 q1 q2 q3 q4 q5 => ?_) (EvM.toD (evm_op (evm_var rfl) (evm_neg evm_int) (.inl (rd_ixT rfl))) rfl)
      show ExS K _ ⟨[.dat (.lst (is.map Item.dat)), .dat (.int k), .loc 0, .own pre, .dat (.tup [.str "show", c.dat]), .dat v.dat], ω3⟩ _
      apply ex_ifs (b := false)
      · exact evt_is (evt_testM (evm_op (evm_var rfl) evm_non (.inl rd_isN))) (val_non v)
      · intro z; cases z
      · intro _
        apply ex_seqN
        apply ex_if (b := false)
        · exact evt_is (evt_testM (evm_op (evm_op (evm_var rfl) evm_int (.inl (rd_ixT rfl))) evm_str (.inl rd_eq_str))) (by decide)
        · intro z; cases z
        · intro _
          apply ex_one
          refine ex_app (i := 3) rfl (evd_call' (ds := [v.dat]) (eva_cons (evd_var rfl) eva_nil) .mk) (by omega) ?_
          apply ex_next
          refine ⟨ω3, _, k3, pre ++ [told v], r3, _, _, rfl, q1, q2, q5, by rw [q3]; exact nd, by rw [q3, q4]; exact tl, by rw [q3, q4]; exact hI, by rw [hr2]; simp, by simp; omega⟩
    | @dfnF _ _ _ k3 d3 p x c _ s ev hd3 =>
      refine go ev hd3 (fun us z => by cases z) (fun ω3 m3 q1 q2 q3 q4 q5 => ?_) (EvM.toD (evm_op (evm_var rfl) (evm_neg evm_int) (.inl (rd_ixT rfl))) rfl)
      show ExS K _ ⟨[.dat (.lst (is.map Item.dat)), .dat (.int k), .loc 0, .own pre, .dat _, .dat .non], ω3⟩ _
      apply ex_ifs (b := true)
      · exact evt_is (evt_testM (evm_op (evm_var rfl) evm_non (.inl rd_isN))) rfl
      · intro _
        apply ex_left
        refine ex_app (i := 3) rfl (evd_tup (ds := [.str s]) (eva_cons (EvM.toD (evm_is (ev_ended M q1 rfl) (by rw [q5]; rfl)) rfl) eva_nil) (by simp)) (by omega) ?_
        refine ex_retO (i := 3) rfl ?_
        show Res.new _ = Res.new _
        rw [hr2]
      · intro z; cases z
    | @shwF _ _ _ k3 d3 c _ s ev hd3 =>
      refine go ev hd3 (fun us z => by cases z) (fun ω3 m3 q1 q2 q3 q4 q5 => ?_) (EvM.toD (evm_op (evm_var rfl) (evm_neg evm_int) (.inl (rd_ixT rfl))) rfl)
      show ExS K _ ⟨[.dat (.lst (is.map Item.dat)), .dat (.int k), .loc 0, .own pre, .dat _, .dat .non], ω3⟩ _
      apply ex_ifs (b := true)
      · exact evt_is (evt_testM (evm_op (evm_var rfl) evm_non (.inl rd_isN))) rfl
      · intro _
        apply ex_left
        refine ex_app (i := 3) rfl (evd_tup (ds := [.str s]) (eva_cons (EvM.toD (evm_is (ev_ended M q1 rfl) (by rw [q5]; rfl)) rfl) eva_nil) (by simp)) (by omega) ?_
        refine ex_retO (i := 3) rfl ?_
        show Res.new _ = Res.new _
        rw [hr2]
      · intro z; cases z
  · rintro _ ⟨ω2, m, k2, pre, r2, x, y, rfl, h2, hm, he, nd, tl, hI, hr2, hp⟩
    rw [List.length_map, List.drop_length] at hI
    cases hI
    rw [List.append_nil] at hr2
    subst hr2
    exact ex_retO (i := 3) rfl rfl

theorem ok__law_cell_at (T : Tx K mg) : FnOk P w K mg base CX0 1 T.a__law_cell_at T.d__law_cell_at ["_law_script", "_law_k"] (spF K (P__law_cell_at)) := by
  refine ok_def (rule_fun T.F__law_cell_at) sc__law_cell_at (fun ds r h => by cases h <;> rfl) fun cdv A outer s H E hr => ⟨_, (pss_cons (ps_if (pt_cmpR op_lt (pv 1) (pe_callB (call_lenK (K := K) rfl) (by rfl) T.n_len (by decide +kernel) (pa_cons (pv 0) pa_nil)) (nomark _)) (pss_one (ps_ret (pe_ix (ix_seqK (K := K) rfl) (pv 0) (pv 1) (fun _ _ => rfl)))) pss_nil)
      (pss_one (ps_ret pe_int))), fun ds r h => ?_⟩
  have hu := hu_of hr
  try dsimp only [L2.Cx.nox, L2.Cx.wish, L2.cxOf]
  cases h with
  | @mk xs k h0 =>
  walk_at "if"
  · intro e
    simp only [List.length_map, decide_eq_true_eq] at e
    apply ex_left
    refine ex_retM (evm_op (evm_var rfl) (evm_var rfl) (.inl (rd_ixL (atI_int h0 e)))) rfl ?_
    rfl
  · intro e
    simp only [List.length_map, decide_eq_false_iff_not] at e
    apply ex_seqN
    walk_at "ret"
    show Res.dat _ = Res.dat _
    unfold cl
    rw [List.getD, List.getElem?_eq_none (by omega)]
    rfl
theorem ok__law_next (T : Tx K mg) : FnOk P w K mg base CX0 1 T.a__law_next T.d__law_next ["_law_draws_here"] (spX K (P__law_next)) := by
  refine ok_defX (rule_fun T.F__law_next) sc__law_next (fun xs ω Ψ h => by cases h <;> rfl) fun cdv A outer s H E hr => ⟨_, (pss_cons (ps_if (pt_cmpR op_gt (pe_callB (call_lenK (K := K) rfl) (by rfl) T.n_len (by decide +kernel) (pa_cons (pv 0) pa_nil)) pe_int (nomark _)) (pss_one (ps_ret (pe_bm0 PySem.F.plainAttrs_list PySem.F.slot_list_pop PySem.F.type_list_pop mt_pop (pv 0)))) pss_nil)
      (pss_one (ps_ret pe_int))), fun xs ω Ψ h => ?_⟩
  have hu := hu_of hr
  try dsimp only [L2.Cx.nox, L2.Cx.wish, L2.cxOf]
  cases h with
  | @mk s =>
  obtain ⟨n, ds⟩ := s
  show ExS K _ ⟨[.loc 1], cst ⟨n, ds⟩⟩ _
  cases ds with
  | nil =>
    refine ex_ifs (b := false) (evt_is (evt_testM (evm_op (evm_cb (evms_cons (.now (evh_cell (l := 1) (ds := []) (evl_var rfl) rfl)) evms_nil) (.inl rc_lenK)) evm_int (.inl rd_B0))) rfl) (fun e => by cases e) fun _ => ex_seqN ?_
    exact ex_retE (eve_m evm_int rfl) ⟨rfl, rfl⟩
  | cons x r =>
    refine ex_ifs (b := true) (evt_is (evt_testM (evm_op (evm_cb (evms_cons (.now (evh_cell (l := 1) (ds := (x :: r).reverse.map Dat.int) (evl_var rfl) rfl)) evms_nil) (.inl rc_lenK)) evm_int (.inl rd_B0))) (by simp)) (fun _ => ?_) (fun e => by cases e)
    apply ex_left
    exact ex_retE (eve_pop (l := 1) (xs := (r.reverse.map Dat.int).map Vl.dat) (x := .dat (.int x)) (evl_var rfl) (by simp [cst])) ⟨rfl, rfl⟩
theorem ok__law_leaf (T : Tx K mg) : FnOk P w K mg base CX0 1 T.a__law_leaf T.d__law_leaf ["_law_cell", "_law_known"] (spF K (P__law_leaf)) := by
  refine ok_def (rule_fun T.F__law_leaf) sc__law_leaf (fun ds r h => by cases h <;> rfl) fun cdv A outer s H E hr => ⟨_, (pss_cons (ps_if (PW.pt (pw_and (pt_cmpR op_gt (pe_callB (call_lenK (K := K) rfl) (by rfl) T.n_len (by decide +kernel) (pa_cons (pv 1) pa_nil)) pe_int (nomark _)) (pw_and1 (pt_cmpR op_gt (pe_op op_mod (pv 0) pe_int) pe_int (nomark _))))) (pss_one (ps_ret (pe_tup (pa_cons pe_str (pa_cons (pe_ix (ix_seqK (K := K) rfl) (pv 1) (pe_op op_mod (pe_op op_fdivW (pv 0) pe_int) (pe_callB (call_lenK (K := K) rfl) (by rfl) T.n_len (by decide +kernel) (pa_cons (pv 1) pa_nil))) (fun _ _ => rfl)) pa_nil))))) pss_nil)
      (pss_cons (ps_set (i := 2) sc__law_leaf.nd rfl (by first | exact Or.inl rfl | exact Or.inr rfl) (pe_op op_mod (pe_op op_fdivW (pv 0) pe_int) (pe_op op_pow pe_int pe_int)))
      (pss_cons (ps_if (pt_cmpR (op_eqK (K := K) rfl hr.units) (pe_op op_mod (pe_op op_fdivW (pv 0) pe_int) pe_int) pe_int (nomark _)) (pss_one (ps_set (i := 2) sc__law_leaf.nd rfl (by first | exact Or.inl rfl | exact Or.inr rfl) (pe_op op_mod (pv 2) pe_int))) pss_nil)
      (pss_cons (ps_if (pt_cmpR (op_eqK (K := K) rfl hr.units) (pe_op op_mod (pe_op op_fdivW (pv 0) pe_int) pe_int) pe_int (nomark _)) (pss_one (ps_set (i := 2) sc__law_leaf.nd rfl (by first | exact Or.inl rfl | exact Or.inr rfl) (pe_op op_sub pe_int (pv 2)))) pss_nil)
      (pss_one (ps_ret (pe_tup (pa_cons pe_str (pa_cons (pv 2) pa_nil))))))))), fun ds r h => ?_⟩
  have hu := hu_of hr
  try dsimp only [L2.Cx.nox, L2.Cx.wish, L2.cxOf]
  cases h with
  | @mk c ks hl =>
  have ln : (((ks.map Dat.int).length : Nat) : Int) = (ks.length : Int) := by rw [List.length_map]
  by_cases e : ks ≠ [] ∧ 0 < c % 3
  · have hp := List.length_pos_iff.mpr e.1
    have a1 := Int.emod_nonneg (c / 3) (show (ks.length : Int) ≠ 0 by omega)
    have a2 := Int.emod_lt_of_pos (c / 3) (show (0 : Int) < (ks.length : Int) by omega)
    refine ex_ifs (b := true) (evt_is (evt_and (a := true) (b := true) (evt_is (evt_testM (evm_op (evm_cb (evms_cons (evm_var rfl) evms_nil) (.inl rc_lenK)) evm_int (.inl rd_B0))) (by rw [ln]; exact decide_eq_true (by omega))) fun _ => evt_is (evt_testM (evm_op (evm_op (evm_var rfl) evm_int (.inl (rd_I (by decide)))) evm_int (.inl rd_B0))) (decide_eq_true e.2)) rfl) (fun _ => ?_) (fun e => by cases e)
    apply ex_left
    refine ex_retM (evm_tup (evms_cons evm_str (evms_cons (evm_op (evm_var rfl) (evm_is (b := .int (c / 3 % (ks.length : Int))) (evm_op (evm_op (evm_var rfl) evm_int (.inl (rd_fdiv (by decide +kernel) (by decide +kernel)))) (evm_cb (evms_cons (evm_var rfl) evms_nil) (.inl rc_lenK)) (.inl (rd_I (by rw [ln]; omega)))) (by rw [ln])) (.inl (rd_ixL (atI_int a1 a2)))) evms_nil)) (by simp)) (by rfl) ?_
    show Res.dat _ = Res.dat _
    unfold leafC
    rw [if_pos e]
    simp only [Core.dat]
  have h1 : (decide (0 < (((ks.map Dat.int).length : Nat) : Int)) && decide (0 < c % 3)) = false := by
    rw [ln]
    simp only [Bool.and_eq_false_iff, decide_eq_false_iff_not]
    by_cases z : ks = []
    · left; subst z; simp
    · right; exact fun y => e ⟨z, y⟩
  refine ex_ifs (b := false) (evt_is (evt_and (a := decide (0 < (((ks.map Dat.int).length : Nat) : Int))) (b := decide (0 < c % 3)) (evt_testM (evm_op (evm_cb (evms_cons (evm_var rfl) evms_nil) (.inl rc_lenK)) evm_int (.inl rd_B0))) fun _ => evt_testM (evm_op (evm_op (evm_var rfl) evm_int (.inl (rd_I (by decide)))) evm_int (.inl rd_B0))) h1) (fun e => by cases e) (fun _ => ?_)
  apply ex_seqN
  refine ex_setM (evm_op (evm_op (evm_var rfl) evm_int (.inl (rd_fdiv (by decide +kernel) (by decide +kernel)))) (evm_op evm_int evm_int (.inl (rd_I ⟨by decide, by decide⟩))) (.inl (rd_I (by decide +kernel)))) rfl ?_
  have hc : leafC c ks = .num (let n := if c / 6 % 3 = 1 then c / 18 % 10 ^ 18 % 3 else c / 18 % 10 ^ 18
    if c / 3 % 2 = 1 then 0 - n else n) := by unfold leafC; rw [if_neg e]
  rw [hc]
  dsimp only
  refine ex_cut (fun ε => ε = ⟨[.dat (.int c), .dat (.lst (ks.map Dat.int)), .dat (.int (if c / 6 % 3 = 1 then c / 18 % 10 ^ 18 % 3 else c / 18 % 10 ^ 18))], []⟩) ?_ ?_
  · by_cases e : c / 6 % 3 = 1
    · refine ex_if (b := true) (evt_is (evt_testM (evm_op (evm_op (evm_op (evm_var rfl) evm_int (.inl (rd_fdiv (by decide +kernel) (by decide +kernel)))) evm_int (.inl (rd_I (by decide)))) evm_int (.inl rd_eq_int))) (by simp [e])) (fun _ => ?_) (fun e => by cases e)
      apply ex_one
      refine ex_setM (evm_op (evm_var rfl) evm_int (.inl (rd_I (by decide)))) rfl ?_
      apply ex_next
      show _ = _
      rw [if_pos e] <;> rfl
    · refine ex_if (b := false) (evt_is (evt_testM (evm_op (evm_op (evm_op (evm_var rfl) evm_int (.inl (rd_fdiv (by decide +kernel) (by decide +kernel)))) evm_int (.inl (rd_I (by decide)))) evm_int (.inl rd_eq_int))) (by simp [e])) (fun e => by cases e) (fun _ => ?_)
      apply ex_next
      show _ = _
      rw [if_neg e] <;> rfl
  rintro _ rfl
  generalize (if c / 6 % 3 = 1 then c / 18 % 10 ^ 18 % 3 else c / 18 % 10 ^ 18) = n
  refine ex_cut (fun ε => ε = ⟨[.dat (.int c), .dat (.lst (ks.map Dat.int)), .dat (.int (if c / 3 % 2 = 1 then 0 - n else n))], []⟩) ?_ ?_
  · by_cases e : c / 3 % 2 = 1
    · refine ex_if (b := true) (evt_is (evt_testM (evm_op (evm_op (evm_op (evm_var rfl) evm_int (.inl (rd_fdiv (by decide +kernel) (by decide +kernel)))) evm_int (.inl (rd_I (by decide)))) evm_int (.inl rd_eq_int))) (by simp [e])) (fun _ => ?_) (fun e => by cases e)
      apply ex_one
      refine ex_setM (evm_op evm_int (evm_var rfl) (.inl rd_I0)) rfl ?_
      apply ex_next
      show _ = _
      rw [if_pos e] <;> rfl
    · refine ex_if (b := false) (evt_is (evt_testM (evm_op (evm_op (evm_op (evm_var rfl) evm_int (.inl (rd_fdiv (by decide +kernel) (by decide +kernel)))) evm_int (.inl (rd_I (by decide)))) evm_int (.inl rd_eq_int))) (by simp [e])) (fun e => by cases e) (fun _ => ?_)
      apply ex_next
      show _ = _
      rw [if_neg e] <;> rfl
  rintro _ rfl
  refine ex_retM (evm_tup (evms_cons evm_str (evms_cons (evm_var rfl) evms_nil)) (by simp)) (by rfl) ?_
  show Res.dat _ = Res.dat _
  simp only [Core.dat]
theorem ok__law_new (T : Tx K mg) : FnOk P w K mg base CX0 1 T.a__law_new T.d__law_new ["_law_count", "_law_many_here"] (spX K (P__law_new)) := by
  refine ok_defX (rule_fun T.F__law_new) sc__law_new (fun xs ω Ψ h => by cases h <;> rfl) fun cdv A outer s H E hr => ⟨_, (pss_cons (ps_set (i := 2) sc__law_new.nd rfl (by first | exact Or.inl rfl | exact Or.inr rfl) (pe_ix (ix_seqK (K := K) rfl) (pv 0) pe_int (fun _ _ => rfl)))
      (pss_cons (ps_asg (pe_op (op_addK (K := K) rfl) (pv 2) (pv 1)) (pg_sub (pv 0) pe_int set_list))
      (pss_one (ps_ret (pe_lc (own := [("_law_j", 3)]) rfl sc__law_new.nd (pi_range1 (by rfl) T.n_range (pa_cons (pv 1) pa_nil)) (blkOk_by (own := [("_law_j", 3)]) (N := ["_law_count", "_law_many_here", "_law_first", "_law_j"]) (sc := defScope S__law_new) (by decide +kernel)) (fun _ _ _ _ _ => (pg_name (i := 3) sc__law_new.nd rfl (by first | exact Or.inl rfl | exact Or.inr rfl))) (fun _ _ _ _ _ => pts_nil) (fun _ _ _ _ _ => (pe_op (op_addK (K := K) rfl) (pv 2) (pv 3)))))))), fun xs ω Ψ h => ?_⟩
  have hu := hu_of hr
  try dsimp only [L2.Cx.nox, L2.Cx.wish, L2.cxOf]
  cases h with
  | @mk s m hm =>
  show ExS K _ ⟨[.loc 0, .dat (.int m), .no, .no], cst s⟩ _
  refine ex_setM (.std (evd_ixC (l := 0) (ds := [.int s.cnt]) (i := 0) (evl_var rfl) rfl (EvM.toH evm_int) rfl)) rfl ?_
  refine ex_setIx (k := 0) (j := 0) (l := 0) (eve_m (evm_op (evm_var rfl) (evm_var rfl) (.inl rd_add_int)) rfl) (evl_var rfl) rfl (EvM.toH evm_int) rfl ?_
  refine ex_retE (eve_m (EvN.toM (evn_lc1 (List.range m.toNat) (fun (j : Nat) => Dat.int (0 + (j : Int))) (fun (j : Nat) => Dat.int (s.cnt + (0 + (j : Int)))) (evw_rng1M (evms_cons (evm_var rfl) evms_nil) ⟨by omega, by omega⟩) (fun j hj => ?_) (by simp; omega))) (by rfl)) ⟨?_, rfl⟩
  · exact EvM.toD (evm_op (evm_var rfl) (evm_var rfl) (.inl rd_add_int)) (by rfl)
  · show Vl.dat _ = Vl.dat _
    unfold newL
    rw [List.map_map]
    rfl
theorem ok__law_odd (T : Tx K mg) : FnOk P w K mg base CX0 1 T.a__law_odd T.d__law_odd ["_law_cell", "_law_parts"] (spF K (P__law_odd)) := by
  refine ok_def (rule_fun T.F__law_odd) sc__law_odd (fun ds r h => by cases h <;> rfl) fun cdv A outer s H E hr => ⟨_, (pss_cons (ps_set (i := 2) sc__law_odd.nd rfl (by first | exact Or.inl rfl | exact Or.inr rfl) (pe_op op_mod (pv 0) pe_int))
      (pss_cons (ps_if (pt_cmpR (op_eqK (K := K) rfl hr.units) (pv 2) pe_int (nomark _)) (pss_one (ps_ret (pe_tup (pa_cons pe_str (pa_cons (pe_ix (ix_seqK (K := K) rfl) (pe_lst (pa_cons pe_str (pa_cons pe_str (pa_cons pe_str pa_nil)))) (pe_op op_mod (pe_op op_fdivW (pv 0) pe_int) pe_int) (fun _ _ => rfl)) pa_nil))))) pss_nil)
      (pss_cons (ps_if (pt_cmpR (op_eqK (K := K) rfl hr.units) (pv 2) pe_int (nomark _)) (pss_one (ps_ret (pe_tup (pa_cons pe_str (pa_cons (pe_ix (ix_seqK (K := K) rfl) (pv 1) pe_int (fun _ _ => rfl)) (pa_cons (pe_slice (sl_tupK (K := K) rfl) (pv 1) (po_some pe_int) po_none) pa_nil)))))) pss_nil)
      (pss_cons (ps_if (pt_cmpR (op_eqK (K := K) rfl hr.units) (pv 2) pe_int (nomark _)) (pss_one (ps_ret (pe_tup (pa_cons pe_str (pa_cons (pe_tup (pa_cons pe_str (pa_cons pe_str pa_nil))) (pa_cons (pe_slice (sl_tupK (K := K) rfl) (pv 1) po_none (po_some pe_int)) pa_nil)))))) pss_nil)
      (pss_cons (ps_if (pt_cmpR (op_eqK (K := K) rfl hr.units) (pv 2) pe_int (nomark _)) (pss_one (ps_ret (pe_tup (pa_cons pe_str (pa_cons (pe_tup (pa_cons pe_str (pa_cons pe_str pa_nil))) (pa_cons (pe_ix (ix_seqK (K := K) rfl) (pv 1) pe_int (fun _ _ => rfl)) (pa_cons (pe_ix (ix_seqK (K := K) rfl) (pv 1) pe_int (fun _ _ => rfl)) pa_nil))))))) pss_nil)
      (pss_one (ps_ret (pe_tup (pa_cons pe_str (pa_cons (pe_ix (ix_seqK (K := K) rfl) (pe_lst (pa_cons pe_str (pa_cons pe_str (pa_cons pe_str pa_nil)))) (pe_op op_mod (pe_op op_fdivW (pv 0) pe_int) pe_int) (fun _ _ => rfl)) pa_nil)))))))))), fun ds r h => ?_⟩
  have hu := hu_of hr
  try dsimp only [L2.Cx.nox, L2.Cx.wish, L2.cxOf]
  cases h with
  | @mk c a b =>
  refine ex_setM (evm_op (evm_var rfl) evm_int (.inl (rd_I (by decide)))) rfl ?_
  have b1 := Int.emod_nonneg (c / 5) (show (3 : Int) ≠ 0 by decide)
  have b2 := Int.emod_lt_of_pos (c / 5) (show (0 : Int) < 3 by decide)
  unfold oddC
  by_cases e0 : c % 5 = 0
  · rw [if_pos e0]
    refine ex_ifs (b := true) (evt_is (evt_testM (evm_op (evm_var rfl) evm_int (.inl rd_eq_int))) (by simp [e0])) (fun _ => ?_) (fun e => by cases e)
    apply ex_left
    refine ex_retM (evm_tup (evms_cons evm_str (evms_cons (evm_op (evm_lst (evms_cons evm_str (evms_cons evm_str (evms_cons evm_str evms_nil))) (by simp)) (evm_op (evm_op (evm_var rfl) evm_int (.inl (rd_fdiv (by decide +kernel) (by decide +kernel)))) evm_int (.inl (rd_I (by decide)))) (.inl (rd_ixL (strs_at (xs := ["adds", "x", "les"]) b1 b2)))) evms_nil)) (by simp)) (by rfl) ?_
    show Res.dat _ = Res.dat _
    simp only [Core.dat]
    rfl
  rw [if_neg e0]
  refine ex_ifs (b := false) (evt_is (evt_testM (evm_op (evm_var rfl) evm_int (.inl rd_eq_int))) (by simp [e0])) (fun e => by cases e) (fun _ => ?_)
  apply ex_seqN
  by_cases e1 : c % 5 = 1
  · rw [if_pos e1]
    refine ex_ifs (b := true) (evt_is (evt_testM (evm_op (evm_var rfl) evm_int (.inl rd_eq_int))) (by simp [e1])) (fun _ => ?_) (fun e => by cases e)
    apply ex_left
    refine ex_retM (evm_tup (evms_cons evm_str (evms_cons (evm_op (evm_var rfl) evm_int (.inl (rd_ixT rfl))) (evms_cons (evm_slT (evm_var rfl) rfl (evo_someM evm_int) evo_none) evms_nil))) (by simp)) (by rfl) ?_
    show Res.dat _ = Res.dat _
    simp only [Core.dat, coresD]
    rfl
  rw [if_neg e1]
  refine ex_ifs (b := false) (evt_is (evt_testM (evm_op (evm_var rfl) evm_int (.inl rd_eq_int))) (by simp [e1])) (fun e => by cases e) (fun _ => ?_)
  apply ex_seqN
  by_cases e2 : c % 5 = 2
  · rw [if_pos e2]
    refine ex_ifs (b := true) (evt_is (evt_testM (evm_op (evm_var rfl) evm_int (.inl rd_eq_int))) (by simp [e2])) (fun _ => ?_) (fun e => by cases e)
    apply ex_left
    refine ex_retM (evm_tup (evms_cons evm_str (evms_cons (evm_tup (evms_cons evm_str (evms_cons evm_str evms_nil)) (by simp)) (evms_cons (evm_slT (evm_var rfl) rfl evo_none (evo_someM evm_int)) evms_nil))) (by simp)) (by rfl) ?_
    show Res.dat _ = Res.dat _
    simp only [Core.dat, coresD]
    rfl
  rw [if_neg e2]
  refine ex_ifs (b := false) (evt_is (evt_testM (evm_op (evm_var rfl) evm_int (.inl rd_eq_int))) (by simp [e2])) (fun e => by cases e) (fun _ => ?_)
  apply ex_seqN
  by_cases e3 : c % 5 = 3
  · rw [if_pos e3]
    refine ex_ifs (b := true) (evt_is (evt_testM (evm_op (evm_var rfl) evm_int (.inl rd_eq_int))) (by simp [e3])) (fun _ => ?_) (fun e => by cases e)
    apply ex_left
    refine ex_retM (evm_tup (evms_cons evm_str (evms_cons (evm_tup (evms_cons evm_str (evms_cons evm_str evms_nil)) (by simp)) (evms_cons (evm_op (evm_var rfl) evm_int (.inl (rd_ixT rfl))) (evms_cons (evm_op (evm_var rfl) evm_int (.inl (rd_ixT rfl))) evms_nil)))) (by simp)) (by rfl) ?_
    show Res.dat _ = Res.dat _
    simp only [Core.dat]
  rw [if_neg e3]
  refine ex_ifs (b := false) (evt_is (evt_testM (evm_op (evm_var rfl) evm_int (.inl rd_eq_int))) (by simp [e3])) (fun e => by cases e) (fun _ => ?_)
  apply ex_seqN
  refine ex_retM (evm_tup (evms_cons evm_str (evms_cons (evm_op (evm_lst (evms_cons evm_str (evms_cons evm_str (evms_cons evm_str evms_nil))) (by simp)) (evm_op (evm_op (evm_var rfl) evm_int (.inl (rd_fdiv (by decide +kernel) (by decide +kernel)))) evm_int (.inl (rd_I (by decide)))) (.inl (rd_ixL (strs_at (xs := ["add", "sub", "less"]) b1 b2)))) evms_nil)) (by simp)) (by rfl) ?_
  show Res.dat _ = Res.dat _
  simp only [Core.dat]
  rfl
theorem ok__law_many (T : Tx K mg) {n : Nat} (ih : FnOk P w K mg base CX0 (2 * n + 2) T.a__law_sum T.d__law_sum ["_law_draws_here", "_law_depth", "_law_known", "_law_tops", "_law_count"] (spX K (P__law_sum n))) : FnOk P w K mg base CX0 (2 * n + 3) T.a__law_many T.d__law_many ["_law_draws_here", "_law_depth", "_law_known", "_law_tops", "_law_count", "_law_many_here"] (spX K (P__law_many n)) := by
  refine ok_defX (rule_fun T.F__law_many) sc__law_many (fun xs ω Ψ h => by cases h <;> rfl) fun cdv A outer s H E hr => ⟨_, (pss_cons (ps_set (i := 6) sc__law_many.nd rfl (by first | exact Or.inl rfl | exact Or.inr rfl) (pe_lst pa_nil))
      (pss_cons (ps_for PassesOwn.never rfl (pi_range1 (by rfl) T.n_range (pa_cons (pv 5) pa_nil)) (pg_name (i := 7) sc__law_many.nd rfl (by first | exact Or.inl rfl | exact Or.inr rfl)) (pss_one (ps_expr (pe_bm PySem.F.plainAttrs_list PySem.F.slot_list_append PySem.F.type_list_append mt_append (pv 6) (pa_cons (pe_call ih (hr.mono (by first | decide | omega)) (by rfl) T.g__law_sum T.F__law_sum.kp T.b__law_sum .nil pass0 (pa_cons (pv 0) (pa_cons (pv 1) (pa_cons (pv 2) (pa_cons (pv 3) (pa_cons (pv 4) pa_nil)))))) pa_nil)))))
      (pss_one (ps_ret (pe_callTy call_tuple_of (by rfl) T.n_tuple (by decide +kernel) (pa_cons (pv 6) pa_nil)))))), fun xs ω Ψ h => ?_⟩
  have hu := hu_of hr
  try dsimp only [L2.Cx.nox, L2.Cx.wish, L2.cxOf]
  cases h with
  | @mk s d ks tops m hd hk ht hm =>
  show ExS K _ ⟨[.loc 1, .dat (.int (d : Int)), .dat (.lst (ks.map Dat.int)), .dat (.lst (tops.map topD)), .loc 0, .dat (.int m), .no, .no], cst s⟩ _
  apply ex_setN
  · exact evn_lst eva_nil
  refine ex_for1 (j := 7) (ds := fromto 0 m.toNat) (fun i ε => ∃ v, ε = ⟨[.loc 1, .dat (.int (d : Int)), .dat (.lst (ks.map Dat.int)), .dat (.lst (tops.map topD)), .loc 0, .dat (.int m), .own ((manyC (sumC d ks tops) i s).1.map Core.dat), v], cst (manyC (sumC d ks tops) i s).2⟩) (evw_rng1M (evms_cons (evm_var rfl) evms_nil) ⟨by omega, by omega⟩) ⟨.no, rfl⟩ ?_ ?_
  · rintro i x _ hx ⟨v, rfl⟩
    have hi : i < m.toNat := by
      have := (List.getElem?_eq_some_iff.mp hx).1
      rwa [fromto_len] at this
    apply ex_one
    refine ex_appOE (i := 6) rfl (eve_call (eves_cons (eve_l (evl_var rfl)) (eves_cons (eve_m (evm_var rfl) rfl) (eves_cons (eve_m (evm_var rfl) rfl) (eves_cons (eve_m (evm_var rfl) rfl) (eves_cons (eve_l (evl_var rfl)) eves_nil))))) (.mk hd hk ht)) (by rw [List.length_map, many_len]; omega) ?_
    apply ex_next
    refine ⟨.dat x, ?_⟩
    show _ = Sta.mk [_, _, _, _, _, _, .own ((manyC (sumC d ks tops) (i + 1) s).1.map Core.dat), _] (cst (manyC (sumC d ks tops) (i + 1) s).2)
    conv => rhs; unfold manyC
    dsimp only
    rw [List.map_append]
    rfl
  rintro _ ⟨v, rfl⟩
  rw [fromto_len]
  refine ex_stand (i := 6) rfl ?_
  exact ex_retE (eve_m (evm_cb (evms_cons (evm_var rfl) evms_nil) (.inl rc_tuple)) (by rfl)) ⟨rfl, rfl⟩
theorem ok__law_fn (T : Tx K mg) {n : Nat} (ih : FnOk P w K mg base CX0 (2 * n + 2) T.a__law_sum T.d__law_sum ["_law_draws_here", "_law_depth", "_law_known", "_law_tops", "_law_count"] (spX K (P__law_sum n))) : FnOk P w K mg base CX0 (2 * n + 3) T.a__law_fn T.d__law_fn ["_law_draws_here", "_law_depth", "_law_known", "_law_tops", "_law_count", "_law_many_here"] (spX K (P__law_fn n)) := by
  refine ok_defX (rule_fun T.F__law_fn) sc__law_fn (fun xs ω Ψ h => by cases h <;> rfl) fun cdv A outer s H E hr => ⟨_, (pss_cons (ps_set (i := 6) sc__law_fn.nd rfl (by first | exact Or.inl rfl | exact Or.inr rfl) (pe_call (ok__law_new T) (hr.mono (by first | decide | omega)) (by rfl) T.g__law_new T.F__law_new.kp T.b__law_new .nil pass0 (pa_cons (pv 4) (pa_cons (pv 5) pa_nil))))
      (pss_cons (ps_set (i := 7) sc__law_fn.nd rfl (by first | exact Or.inl rfl | exact Or.inr rfl) (pe_call ih (hr.mono (by first | decide | omega)) (by rfl) T.g__law_sum T.F__law_sum.kp T.b__law_sum .nil pass0 (pa_cons (pv 0) (pa_cons (pv 1) (pa_cons (pe_op (op_addK (K := K) rfl) (pv 2) (pv 6)) (pa_cons (pv 3) (pa_cons (pv 4) pa_nil)))))))
      (pss_one (ps_ret (pe_tup (pa_cons pe_str (pa_cons (pe_callTy call_tuple_of (by rfl) T.n_tuple (by decide +kernel) (pa_cons (pe_lc (own := [("_law_place", 8)]) rfl sc__law_fn.nd (pi_listK (K := K) rfl (pv 6)) (blkOk_by (own := [("_law_place", 8)]) (N := ["_law_draws_here", "_law_depth", "_law_known", "_law_tops", "_law_count", "_law_many_here", "_law_places", "_law_body", "_law_place"]) (sc := defScope S__law_fn) (by decide +kernel)) (fun _ _ _ _ _ => (pg_name (i := 8) sc__law_fn.nd rfl (by first | exact Or.inl rfl | exact Or.inr rfl))) (fun _ _ _ _ _ => pts_nil) (fun _ _ _ _ _ => (pe_tup (pa_cons (pv 8) (pa_cons (pe_ix (ix_seqK (K := K) rfl) pe_str (pe_op op_mod (pv 8) pe_int) (fun _ _ => rfl)) pa_nil))))) pa_nil)) (pa_cons (pv 7) pa_nil)))))))), fun xs ω Ψ h => ?_⟩
  have hu := hu_of hr
  try dsimp only [L2.Cx.nox, L2.Cx.wish, L2.cxOf]
  cases h with
  | @mk s d ks tops m hd hk ht hm =>
  show ExS K _ ⟨[.loc 1, .dat (.int (d : Int)), .dat (.lst (ks.map Dat.int)), .dat (.lst (tops.map topD)), .loc 0, .dat (.int m), .no, .no, .no], cst s⟩ _
  have nl : (newL s.cnt m).length = m.toNat := by unfold newL; simp
  refine ex_setE (eve_call (eves_cons (eve_l (evl_var rfl)) (eves_cons (eve_m (evm_var rfl) rfl) eves_nil)) (.mk ⟨hm.1, by omega⟩)) ?_
  refine ex_setE (eve_call (eves_cons (eve_l (evl_var rfl)) (eves_cons (eve_m (evm_var rfl) rfl) (eves_cons (eve_d (EvN.toD (evn_is (evn_opM (evm_var rfl) (evm_var rfl) (by rfl) (rdn_add_lst (by rw [List.length_map, List.length_map]; omega))) (List.map_append (f := Dat.int)).symm))) (eves_cons (eve_m (evm_var rfl) rfl) (eves_cons (eve_l (evl_var rfl)) eves_nil))))) (.mk hd (by rw [List.length_append]; omega) ht)) ?_
  refine ex_retE (eve_m (evm_tup (evms_cons evm_str (evms_cons (evm_cb (evms_cons (EvN.toM (evn_lc1 (newL s.cnt m) Dat.int (fun p => parD (p, nmL p)) (evw_listM (evm_var rfl) rfl) (fun q hq => ?_) (by omega))) evms_nil) (.inl rc_tuple)) (evms_cons (evm_var rfl) evms_nil))) (by simp)) (by rfl)) ⟨?_, rfl⟩
  · exact EvM.toD (evm_tup (evms_cons (evm_var rfl) (evms_cons (evm_op (evm_str (i := X3)) (evm_op (evm_var rfl) evm_int (.inl (rd_I (by decide)))) (.inl (rd_ixS (by decide +kernel) (x3_at _)))) evms_nil)) (by simp)) (by rfl)
  · show Vl.dat _ = Vl.dat _
    unfold fnC
    simp only [Core.dat, List.map_map]
    rfl
theorem e_many {n : Nat} {E : XK} {sl : List Sl} {s : St} {d : Nat} {ks : List Int} {tops : List (Int × Int)} {m : Int} {i0 ik it ic : Nat} {td tm : TE} {b1 b2 : Bool} (h0 : sl[i0]? = some (.loc 1)) (hk : sl[ik]? = some (.dat (.lst (ks.map Dat.int)))) (htp : sl[it]? = some (.dat (.lst (tops.map topD)))) (hc : sl[ic]? = some (.loc 0))
    (hd : EvM K td ⟨sl, cst s⟩ (.int (d : Int)) b1) (hm : EvM K tm ⟨sl, cst s⟩ (.int m) b2) (e1 : b1 = true) (e2 : b2 = true) (h : d < n) (hkl : ks.length + 10 * d < 1000) (ht : Tops tops) (hmb : 0 ≤ m ∧ m < 100) :
    EvE K (tCall (spX K (P__law_many n)) [] E (tCons (tVar i0) (tCons td (tCons (tVar ik) (tCons (tVar it) (tCons (tVar ic) (tCons tm tNil))))))) ⟨sl, cst s⟩ (.dat (.tup ((manyC (sumC d ks tops) m.toNat s).1.map Core.dat))) (cst (manyC (sumC d ks tops) m.toNat s).2) :=
  eve_call (eves_cons (eve_l (evl_var h0)) (eves_cons (eve_m hd e1) (eves_cons (eve_m (evm_var hk) rfl) (eves_cons (eve_m (evm_var htp) rfl) (eves_cons (eve_l (evl_var hc)) (eves_cons (eve_m hm e2) eves_nil)))))) (.mk h hkl ht hmb)
theorem e_fn {n : Nat} {E : XK} {sl : List Sl} {s : St} {d : Nat} {ks : List Int} {tops : List (Int × Int)} {m : Int} {i0 it ic : Nat} {td tk tm : TE} {b1 b2 b3 : Bool} (h0 : sl[i0]? = some (.loc 1)) (hk : EvM K tk ⟨sl, cst s⟩ (.lst (ks.map Dat.int)) b3) (htp : sl[it]? = some (.dat (.lst (tops.map topD)))) (hc : sl[ic]? = some (.loc 0))
    (hd : EvM K td ⟨sl, cst s⟩ (.int (d : Int)) b1) (hm : EvM K tm ⟨sl, cst s⟩ (.int m) b2) (e1 : b1 = true) (e2 : b2 = true) (e3 : b3 = true) (h : d < n) (hkl : ks.length + 10 * d + 5 < 1000) (ht : Tops tops) (hmb : 0 ≤ m ∧ m < 4) :
    EvE K (tCall (spX K (P__law_fn n)) [] E (tCons (tVar i0) (tCons td (tCons tk (tCons (tVar it) (tCons (tVar ic) (tCons tm tNil))))))) ⟨sl, cst s⟩ (.dat (fnC (fun k s => sumC d k tops s) ks m s).1.dat) (cst (fnC (fun k s => sumC d k tops s) ks m s).2) :=
  eve_call (eves_cons (eve_l (evl_var h0)) (eves_cons (eve_m hd e1) (eves_cons (eve_m hk e3) (eves_cons (eve_m (evm_var htp) rfl) (eves_cons (eve_l (evl_var hc)) (eves_cons (eve_m hm e2) eves_nil)))))) (.mk h hkl ht hmb)
theorem getc_at {xs : List Core} {k : Nat} (h : k < xs.length) : atI (xs.map Core.dat) (k : Int) = some (xs.getD k c0).dat := by
  refine atI_nat ?_
  rw [List.getElem?_map, List.getD, List.getElem?_eq_getElem h]
  rfl
theorem ok__law_sum (T : Tx K mg) : ∀ n : Nat, FnOk P w K mg base CX0 (2 * n + 2) T.a__law_sum T.d__law_sum ["_law_draws_here", "_law_depth", "_law_known", "_law_tops", "_law_count"] (spX K (P__law_sum n)) := by
  intro n
  induction n with
  | zero => exact fn_noneX fun _ _ _ h => by cases h <;> omega
  | succ n ih =>
  refine ok_defX (rule_fun T.F__law_sum) sc__law_sum (fun xs ω Ψ h => by cases h <;> rfl) fun cdv A outer s H E hr => ⟨_, (pss_cons (ps_set (i := 5) sc__law_sum.nd rfl (by first | exact Or.inl rfl | exact Or.inr rfl) (pe_call (ok__law_next T) (hr.mono (by first | decide | omega)) (by rfl) T.g__law_next T.F__law_next.kp T.b__law_next .nil pass0 (pa_cons (pv 0) pa_nil)))
      (pss_cons (ps_set (i := 6) sc__law_sum.nd rfl (by first | exact Or.inl rfl | exact Or.inr rfl) (pe_op op_mod (pv 5) pe_int))
      (pss_cons (ps_set (i := 7) sc__law_sum.nd rfl (by first | exact Or.inl rfl | exact Or.inr rfl) (pe_op op_fdivW (pv 5) pe_int))
      (pss_cons (ps_if (PW.pt (pw_or (pt_cmpR (op_eqK (K := K) rfl hr.units) (pv 1) pe_int (nomark _)) (pw_or (pt_cmpR op_lt (pv 6) pe_int (nomark _)) (pw_or1 (PW.pt (pw_and (pt_cmpR (op_eqK (K := K) rfl hr.units) (pv 6) pe_int (nomark _)) (pw_and1 (pt_cmpR (op_eqK (K := K) rfl hr.units) (pv 3) (pe_lst pa_nil) (nomark _))))))))) (pss_one (ps_ret (pe_call (ok__law_leaf T) (hr.mono (by first | decide | omega)) (by rfl) T.g__law_leaf T.F__law_leaf.kp T.b__law_leaf .nil pass0 (pa_cons (pv 7) (pa_cons (pv 2) pa_nil))))) pss_nil)
      (pss_cons (ps_if (pt_cmpR op_lt (pv 6) pe_int (nomark _)) (pss_cons (ps_set (i := 9) sc__law_sum.nd rfl (by first | exact Or.inl rfl | exact Or.inr rfl) (pe_ix (ix_seqK (K := K) rfl) (pe_lst (pa_cons pe_str (pa_cons pe_str (pa_cons pe_str pa_nil)))) (pe_op op_sub (pv 6) pe_int) (fun _ _ => rfl)))
      (pss_one (ps_ret (pe_tup (pa_cons pe_str (pa_cons (pe_tup (pa_cons pe_str (pa_cons (pv 9) pa_nil))) (pa_cons (pe_call (ok__law_many T ih) (hr.mono (by first | decide | omega)) (by rfl) T.g__law_many T.F__law_many.kp T.b__law_many .nil pass0 (pa_cons (pv 0) (pa_cons (pe_op op_sub (pv 1) pe_int) (pa_cons (pv 2) (pa_cons (pv 3) (pa_cons (pv 4) (pa_cons pe_int pa_nil))))))) pa_nil))))))) pss_nil)
      (pss_cons (ps_if (pt_cmpR (op_eqK (K := K) rfl hr.units) (pv 6) pe_int (nomark _)) (pss_cons (ps_set (i := 8) sc__law_sum.nd rfl (by first | exact Or.inl rfl | exact Or.inr rfl) (pe_call (ok__law_many T ih) (hr.mono (by first | decide | omega)) (by rfl) T.g__law_many T.F__law_many.kp T.b__law_many .nil pass0 (pa_cons (pv 0) (pa_cons (pe_op op_sub (pv 1) pe_int) (pa_cons (pv 2) (pa_cons (pv 3) (pa_cons (pv 4) (pa_cons pe_int pa_nil))))))))
      (pss_one (ps_ret (pe_tup (pa_cons pe_str (pa_cons (pe_ix (ix_seqK (K := K) rfl) (pv 8) pe_int (fun _ _ => rfl)) (pa_cons (pe_ix (ix_seqK (K := K) rfl) (pv 8) pe_int (fun _ _ => rfl)) (pa_cons (pe_ix (ix_seqK (K := K) rfl) (pv 8) pe_int (fun _ _ => rfl)) pa_nil)))))))) pss_nil)
      (pss_cons (ps_if (pt_cmpR (op_eqK (K := K) rfl hr.units) (pv 6) pe_int (nomark _)) (pss_cons (ps_set (i := 10) sc__law_sum.nd rfl (by first | exact Or.inl rfl | exact Or.inr rfl) (pe_call (ok__law_fn T ih) (hr.mono (by first | decide | omega)) (by rfl) T.g__law_fn T.F__law_fn.kp T.b__law_fn .nil pass0 (pa_cons (pv 0) (pa_cons (pe_op op_sub (pv 1) pe_int) (pa_cons (pv 2) (pa_cons (pv 3) (pa_cons (pv 4) (pa_cons (pe_op op_mod (pv 7) pe_int) pa_nil))))))))
      (pss_one (ps_ret (pe_tup (pa_cons pe_str (pa_cons (pv 10) (pa_cons (pe_call (ok__law_many T ih) (hr.mono (by first | decide | omega)) (by rfl) T.g__law_many T.F__law_many.kp T.b__law_many .nil pass0 (pa_cons (pv 0) (pa_cons (pe_op op_sub (pv 1) pe_int) (pa_cons (pv 2) (pa_cons (pv 3) (pa_cons (pv 4) (pa_cons (pe_op op_mod (pv 7) pe_int) pa_nil))))))) pa_nil))))))) pss_nil)
      (pss_cons (ps_if (pt_cmpR (op_eqK (K := K) rfl hr.units) (pv 6) pe_int (nomark _)) (pss_cons (ps_set (i := 11) sc__law_sum.nd rfl (by first | exact Or.inl rfl | exact Or.inr rfl) (pe_ix (ix_seqK (K := K) rfl) (pv 3) (pe_op op_mod (pv 7) (pe_callB (call_lenK (K := K) rfl) (by rfl) T.n_len (by decide +kernel) (pa_cons (pv 3) pa_nil))) (fun _ _ => rfl)))
      (pss_one (ps_ret (pe_tup (pa_cons pe_str (pa_cons (pe_tup (pa_cons pe_str (pa_cons (pe_ix (ix_seqK (K := K) rfl) (pv 11) pe_int (fun _ _ => rfl)) pa_nil))) (pa_cons (pe_call (ok__law_many T ih) (hr.mono (by first | decide | omega)) (by rfl) T.g__law_many T.F__law_many.kp T.b__law_many .nil pass0 (pa_cons (pv 0) (pa_cons (pe_op op_sub (pv 1) pe_int) (pa_cons (pv 2) (pa_cons (pv 3) (pa_cons (pv 4) (pa_cons (pe_ix (ix_seqK (K := K) rfl) (pv 11) pe_int (fun _ _ => rfl)) pa_nil))))))) pa_nil))))))) pss_nil)
      (pss_cons (ps_if (pt_cmpR (op_eqK (K := K) rfl hr.units) (pv 6) pe_int (nomark _)) (pss_cons (ps_set (i := 12) sc__law_sum.nd rfl (by first | exact Or.inl rfl | exact Or.inr rfl) (pe_call (ok__law_new T) (hr.mono (by first | decide | omega)) (by rfl) T.g__law_new T.F__law_new.kp T.b__law_new .nil pass0 (pa_cons (pv 4) (pa_cons pe_int pa_nil))))
      (pss_cons (ps_set (i := 13) sc__law_sum.nd rfl (by first | exact Or.inl rfl | exact Or.inr rfl) (pe_call (ok__law_fn T ih) (hr.mono (by first | decide | omega)) (by rfl) T.g__law_fn T.F__law_fn.kp T.b__law_fn .nil pass0 (pa_cons (pv 0) (pa_cons (pe_op op_sub (pv 1) pe_int) (pa_cons (pe_op (op_addK (K := K) rfl) (pv 2) (pv 12)) (pa_cons (pv 3) (pa_cons (pv 4) (pa_cons pe_int pa_nil))))))))
      (pss_cons (ps_set (i := 14) sc__law_sum.nd rfl (by first | exact Or.inl rfl | exact Or.inr rfl) (pe_call (ok__law_many T ih) (hr.mono (by first | decide | omega)) (by rfl) T.g__law_many T.F__law_many.kp T.b__law_many .nil pass0 (pa_cons (pv 0) (pa_cons (pe_op op_sub (pv 1) pe_int) (pa_cons (pv 2) (pa_cons (pv 3) (pa_cons (pv 4) (pa_cons pe_int pa_nil))))))))
      (pss_one (ps_ret (pe_tup (pa_cons pe_str (pa_cons (pe_tup (pa_cons pe_str (pa_cons (pe_tup (pa_cons pe_str (pa_cons (pe_tup (pa_cons (pe_tup (pa_cons (pe_ix (ix_seqK (K := K) rfl) (pv 12) pe_int (fun _ _ => rfl)) (pa_cons pe_str pa_nil))) pa_nil)) (pa_cons (pv 13) pa_nil)))) (pa_cons (pe_slice (sl_tupK (K := K) rfl) (pv 14) po_none (po_some pe_int)) pa_nil)))) (pa_cons (pe_slice (sl_tupK (K := K) rfl) (pv 14) (po_some pe_int) po_none) pa_nil))))))))) pss_nil)
      (pss_cons (ps_set (i := 8) sc__law_sum.nd rfl (by first | exact Or.inl rfl | exact Or.inr rfl) (pe_call (ok__law_many T ih) (hr.mono (by first | decide | omega)) (by rfl) T.g__law_many T.F__law_many.kp T.b__law_many .nil pass0 (pa_cons (pv 0) (pa_cons (pe_op op_sub (pv 1) pe_int) (pa_cons (pv 2) (pa_cons (pv 3) (pa_cons (pv 4) (pa_cons pe_int pa_nil))))))))
      (pss_cons (ps_if (pt_cmpR (op_eqK (K := K) rfl hr.units) (pe_op op_mod (pv 7) pe_int) pe_int (nomark _)) (pss_one (ps_ret (pe_call (ok__law_odd T) (hr.mono (by first | decide | omega)) (by rfl) T.g__law_odd T.F__law_odd.kp T.b__law_odd .nil pass0 (pa_cons (pe_op op_fdivW (pv 7) pe_int) (pa_cons (pv 8) pa_nil))))) pss_nil)
      (pss_one (ps_ret (pe_tup (pa_cons pe_str (pa_cons (pe_tup (pa_cons pe_str (pa_cons pe_str pa_nil))) (pa_cons (pv 8) pa_nil))))))))))))))))), fun xs ω Ψ h => ?_⟩
  have hu := hu_of hr
  try dsimp only [L2.Cx.nox, L2.Cx.wish, L2.cxOf]
  cases h with
  | @mk s d ks tops hd hk ht =>
  show ExS K _ ⟨[.loc 1, .dat (.int (d : Int)), .dat (.lst (ks.map Dat.int)), .dat (.lst (tops.map topD)), .loc 0, .no, .no, .no, .no, .no, .no, .no, .no, .no, .no], cst s⟩ _
  refine ex_setE (eve_call (eves_cons (eve_l (evl_var rfl)) eves_nil) .mk) ?_
  refine ex_setM (evm_op (evm_var rfl) evm_int (.inl (rd_I (by decide)))) rfl ?_
  refine ex_setM (evm_op (evm_var rfl) evm_int (.inl (rd_fdiv (by decide +kernel) (by decide +kernel)))) rfl ?_
  have m1 := Int.emod_nonneg (next s) (show (10 : Int) ≠ 0 by decide)
  have m2 := Int.emod_lt_of_pos (next s) (show (0 : Int) < 10 by decide)
  cases d with
  | zero =>
    refine ex_ifs (b := true) (evt_is (evt_or (a := true) (b := true) (evt_is (evt_testM (evm_op (evm_var rfl) evm_int (.inl rd_eq_int))) rfl) fun e => by cases e) rfl) (fun _ => ?_) (fun e => by cases e)
    apply ex_left
    refine ex_retE (eve_m (evm_call (evms_cons (evm_var rfl) (evms_cons (evm_var rfl) evms_nil)) (.dat (.mk (by omega)))) (by rfl)) ⟨?_, ?_⟩
    · show Vl.dat _ = Vl.dat _
      unfold sumC
      rfl
    · unfold sumC
      rfl
  | succ d =>
  have hdm : Dat.int (((d + 1 : Nat) : Int) - 1) = .int (d : Int) := by congr 1; omega
  have hs : sumC (d + 1) ks tops s = (let kind := next s % 10
    let more := next s / 10
    let one := sumC d ks tops
    if kind < 2 ∨ (kind = 7 ∧ tops = []) then (leafC more ks, s.tl)
    else if kind < 5 then (.call (.free (opI (kind - 2))) (manyC one 2 s.tl).1, (manyC one 2 s.tl).2)
    else if kind = 5 then (.pick ((manyC one 3 s.tl).1.getD 0 c0) ((manyC one 3 s.tl).1.getD 1 c0) ((manyC one 3 s.tl).1.getD 2 c0), (manyC one 3 s.tl).2)
    else if kind = 6 then
      let f := fnC (fun k s => sumC d k tops s) ks (more % 3) s.tl
      (.call f.1 (manyC one (more % 3).toNat f.2).1, (manyC one (more % 3).toNat f.2).2)
    else if kind = 7 then
      let t := tops.getD (more % tops.length).toNat (0, 0)
      (.call (.seen t.1) (manyC one t.2.toNat s.tl).1, (manyC one t.2.toNat s.tl).2)
    else if kind = 8 then
      let ps := newL s.cnt 1
      let f := fnC (fun k s => sumC d k tops s) (ks ++ ps) 1 (s.tl.add 1)
      let g := manyC one 2 f.2
      (.call (.call (.fn [(ps.getD 0 0, "x")] f.1) (g.1.take 1)) (g.1.drop 1), g.2)
    else
      let q := manyC one 2 s.tl
      if more % 4 = 0 then (oddC (more / 4) (q.1.getD 0 c0) (q.1.getD 1 c0), q.2)
      else (.call (.free "add") q.1, q.2)) := by conv => lhs; unfold sumC
  rw [hs]
  clear hs
  dsimp only
  generalize next s % 10 = kind at *
  generalize next s / 10 = more at *
  generalize next s = cell at *
  have hcnt : s.tl.cnt = s.cnt := rfl
  rw [← hcnt]
  generalize s.tl = s at *
  show ExS K _ ⟨[.loc 1, .dat (.int ((d + 1 : Nat) : Int)), .dat (.lst (ks.map Dat.int)), .dat (.lst (tops.map topD)), .loc 0, .dat (.int cell), .dat (.int kind), .dat (.int more), .no, .no, .no, .no, .no, .no, .no], cst s⟩ _
  have tst : ((Dat.lst (tops.map topD)).eqv (.lst [])) = decide (tops = []) := by cases tops <;> simp <;> rfl
  have eq7 : ∀ i j : Int, (i == j) = decide (i = j) := fun i j => by
    rw [Bool.eq_iff_iff]
    simp
  by_cases e1 : kind < 2 ∨ (kind = 7 ∧ tops = [])
  · rw [if_pos e1]
    refine ex_ifs (b := true) (evt_is (evt_or (a := false) (b := true) (evt_is (evt_testM (evm_op (evm_var rfl) evm_int (.inl rd_eq_int))) (by rw [eq7]; exact decide_eq_false (by omega))) fun _ => evt_is (evt_or (a := decide (kind < 2)) (b := decide (kind = 7 ∧ tops = [])) (evt_testM (evm_op (evm_var rfl) evm_int (.inl rd_B0))) fun _ => evt_is (evt_and (a := decide (kind = 7)) (b := decide (tops = [])) (evt_is (evt_testM (evm_op (evm_var rfl) evm_int (.inl rd_eq_int))) (eq7 _ _)) fun _ => evt_is (evt_testM (evm_op (evm_var rfl) (evm_lst evms_nil (by simp)) (.inl (rd_eq 3 1 (tops_pl tops) (by rfl))))) tst) (Bool.decide_and _ _).symm) (by rw [← Bool.decide_or]; exact decide_eq_true e1)) rfl) (fun _ => ?_) (fun e => by cases e)
    apply ex_left
    exact ex_retE (eve_m (evm_call (evms_cons (evm_var rfl) (evms_cons (evm_var rfl) evms_nil)) (.dat (.mk (by omega)))) (by rfl)) ⟨rfl, rfl⟩
  rw [if_neg e1]
  refine ex_ifs (b := false) (evt_is (evt_or (a := false) (b := false) (evt_is (evt_testM (evm_op (evm_var rfl) evm_int (.inl rd_eq_int))) (by rw [eq7]; exact decide_eq_false (by omega))) fun _ => evt_is (evt_or (a := decide (kind < 2)) (b := decide (kind = 7 ∧ tops = [])) (evt_testM (evm_op (evm_var rfl) evm_int (.inl rd_B0))) fun _ => evt_is (evt_and (a := decide (kind = 7)) (b := decide (tops = [])) (evt_is (evt_testM (evm_op (evm_var rfl) evm_int (.inl rd_eq_int))) (eq7 _ _)) fun _ => evt_is (evt_testM (evm_op (evm_var rfl) (evm_lst evms_nil (by simp)) (.inl (rd_eq 3 1 (tops_pl tops) (by rfl))))) tst) (Bool.decide_and _ _).symm) (by rw [← Bool.decide_or]; exact decide_eq_false e1)) rfl) (fun e => by cases e) (fun _ => ?_)
  apply ex_seqN
  by_cases e2 : kind < 5
  · rw [if_pos e2]
    refine ex_ifs (b := true) (evt_is (evt_testM (evm_op (evm_var rfl) evm_int (.inl rd_B0))) (decide_eq_true e2)) (fun _ => ?_) (fun e => by cases e)
    apply ex_left
    have k1 : 0 ≤ kind - 2 := by have := e1; omega
    refine ex_setM (evm_op (evm_lst (evms_cons evm_str (evms_cons evm_str (evms_cons evm_str evms_nil))) (by simp)) (evm_op (evm_var rfl) evm_int (.inl rd_I0)) (.inl (rd_ixL (strs_at (xs := ["add", "sub", "less"]) k1 (by show kind - 2 < 3; omega))))) (by rfl) ?_
    refine ex_retE (eve_tup (ds := [.str "call", (Core.free (opI (kind - 2))).dat, .tup ((manyC (sumC d ks tops) 2 s).1.map Core.dat)]) (eves_cons (eve_d evd_str) (eves_cons (eve_m (evm_is (evm_tup (evms_cons evm_str (evms_cons (evm_var rfl) evms_nil)) (by simp)) (by simp only [Core.dat]; rfl)) (by rfl)) (eves_cons (e_many (m := 2) rfl rfl rfl rfl (evm_is (evm_op (evm_var rfl) evm_int (.inl rd_I0)) hdm) evm_int (by rfl) (by rfl) (by omega) (by omega) ht (by omega)) eves_nil))) (by simp)) ⟨?_, rfl⟩
    show Vl.dat _ = Vl.dat _
    simp only [Core.dat, coresD_map]
  rw [if_neg e2]
  refine ex_ifs (b := false) (evt_is (evt_testM (evm_op (evm_var rfl) evm_int (.inl rd_B0))) (decide_eq_false e2)) (fun e => by cases e) (fun _ => ?_)
  apply ex_seqN
  by_cases e3 : kind = 5
  · rw [if_pos e3]
    refine ex_ifs (b := true) (evt_is (evt_testM (evm_op (evm_var rfl) evm_int (.inl rd_eq_int))) (by rw [eq7]; exact decide_eq_true e3)) (fun _ => ?_) (fun e => by cases e)
    apply ex_left
    have hlen := many_len (sumC d ks tops) 3 s
    refine ex_setE (e_many (m := 3) rfl rfl rfl rfl (evm_is (evm_op (evm_var rfl) evm_int (.inl rd_I0)) hdm) evm_int (by rfl) (by rfl) (by omega) (by omega) ht (by omega)) ?_
    refine ex_retE (eve_m (evm_tup (evms_cons evm_str (evms_cons (evm_op (evm_var rfl) evm_int (.inl (rd_ixT (getc_at (k := 0) (by show 0 < (manyC (sumC d ks tops) 3 s).1.length; omega))))) (evms_cons (evm_op (evm_var rfl) evm_int (.inl (rd_ixT (getc_at (k := 1) (by show 1 < (manyC (sumC d ks tops) 3 s).1.length; omega))))) (evms_cons (evm_op (evm_var rfl) evm_int (.inl (rd_ixT (getc_at (k := 2) (by show 2 < (manyC (sumC d ks tops) 3 s).1.length; omega))))) evms_nil)))) (by simp)) (by rfl)) ⟨?_, rfl⟩
    show Vl.dat _ = Vl.dat _
    simp only [Core.dat]
    rfl
  rw [if_neg e3]
  refine ex_ifs (b := false) (evt_is (evt_testM (evm_op (evm_var rfl) evm_int (.inl rd_eq_int))) (by rw [eq7]; exact decide_eq_false e3)) (fun e => by cases e) (fun _ => ?_)
  apply ex_seqN
  by_cases e4 : kind = 6
  · rw [if_pos e4]
    refine ex_ifs (b := true) (evt_is (evt_testM (evm_op (evm_var rfl) evm_int (.inl rd_eq_int))) (by rw [eq7]; exact decide_eq_true e4)) (fun _ => ?_) (fun e => by cases e)
    apply ex_left
    have n1 := Int.emod_nonneg more (show (3 : Int) ≠ 0 by decide)
    have n2 := Int.emod_lt_of_pos more (show (0 : Int) < 3 by decide)
    refine ex_setE (e_fn (ks := ks) (m := more % 3) rfl (evm_var rfl) rfl rfl (evm_is (evm_op (evm_var rfl) evm_int (.inl rd_I0)) hdm) (evm_op (evm_var rfl) evm_int (.inl (rd_I (by decide)))) (by rfl) (by rfl) (by rfl) (by omega) (by omega) ht (by omega)) ?_
    refine ex_retE (eve_tup (ds := [.str "call", (fnC (fun k s => sumC d k tops s) ks (more % 3) s).1.dat, .tup ((manyC (sumC d ks tops) (more % 3).toNat (fnC (fun k s => sumC d k tops s) ks (more % 3) s).2).1.map Core.dat)]) (eves_cons (eve_d evd_str) (eves_cons (eve_m (evm_var rfl) rfl) (eves_cons (e_many (m := more % 3) rfl rfl rfl rfl (evm_is (evm_op (evm_var rfl) evm_int (.inl rd_I0)) hdm) (evm_op (evm_var rfl) evm_int (.inl (rd_I (by decide)))) (by rfl) (by rfl) (by omega) (by omega) ht (by omega)) eves_nil))) (by simp)) ⟨?_, rfl⟩
    show Vl.dat _ = Vl.dat _
    simp only [Core.dat, coresD_map]
  rw [if_neg e4]
  refine ex_ifs (b := false) (evt_is (evt_testM (evm_op (evm_var rfl) evm_int (.inl rd_eq_int))) (by rw [eq7]; exact decide_eq_false e4)) (fun e => by cases e) (fun _ => ?_)
  apply ex_seqN
  by_cases e5 : kind = 7
  · rw [if_pos e5]
    refine ex_ifs (b := true) (evt_is (evt_testM (evm_op (evm_var rfl) evm_int (.inl rd_eq_int))) (by rw [eq7]; exact decide_eq_true e5)) (fun _ => ?_) (fun e => by cases e)
    apply ex_left
    have hne : tops ≠ [] := fun z => e1 (.inr ⟨e5, z⟩)
    have hp := List.length_pos_iff.mpr hne
    have n1 := Int.emod_nonneg more (show (tops.length : Int) ≠ 0 by omega)
    have n2 := Int.emod_lt_of_pos more (show (0 : Int) < (tops.length : Int) by omega)
    have ln : (((tops.map topD).length : Nat) : Int) = (tops.length : Int) := by rw [List.length_map]
    have hg : tops[(more % (tops.length : Int)).toNat]? = some (tops.getD (more % tops.length).toNat (0, 0)) := by
      rw [List.getD, List.getElem?_eq_getElem (by omega)]
      rfl
    have hok := ht.ok _ (List.mem_of_getElem? hg)
    have hat : atI (tops.map topD) (more % (tops.length : Int)) = some (topD (tops.getD (more % tops.length).toNat (0, 0))) := atI_map n1 hg
    refine ex_setM (evm_op (evm_var rfl) (evm_is (b := .int (more % (tops.length : Int))) (evm_op (evm_var rfl) (evm_cb (evms_cons (evm_var rfl) evms_nil) (.inl rc_lenK)) (.inl (rd_I (by rw [ln]; omega)))) (by rw [ln])) (.inl (rd_ixL hat))) (by rfl) ?_
    generalize tops.getD (more % tops.length).toNat (0, 0) = t at *
    refine ex_retE (eve_tup (ds := [.str "call", (Core.seen t.1).dat, .tup ((manyC (sumC d ks tops) t.2.toNat s).1.map Core.dat)]) (eves_cons (eve_d evd_str) (eves_cons (eve_m (evm_is (evm_tup (evms_cons evm_str (evms_cons (evm_op (evm_is (b := .tup [.int t.1, .int t.2]) (evm_var rfl) rfl) evm_int (.inl (rd_ixT rfl))) evms_nil)) (by simp)) (by simp only [Core.dat])) (by rfl)) (eves_cons (e_many (m := t.2) rfl rfl rfl rfl (evm_is (evm_op (evm_var rfl) evm_int (.inl rd_I0)) hdm) (evm_op (evm_is (b := .tup [.int t.1, .int t.2]) (evm_var rfl) rfl) evm_int (.inl (rd_ixT rfl))) (by rfl) (by rfl) (by omega) (by omega) ht (by omega)) eves_nil))) (by simp)) ⟨?_, rfl⟩
    show Vl.dat _ = Vl.dat _
    simp only [Core.dat, coresD_map]
  rw [if_neg e5]
  refine ex_ifs (b := false) (evt_is (evt_testM (evm_op (evm_var rfl) evm_int (.inl rd_eq_int))) (by rw [eq7]; exact decide_eq_false e5)) (fun e => by cases e) (fun _ => ?_)
  apply ex_seqN
  by_cases e6 : kind = 8
  · rw [if_pos e6]
    refine ex_ifs (b := true) (evt_is (evt_testM (evm_op (evm_var rfl) evm_int (.inl rd_eq_int))) (by rw [eq7]; exact decide_eq_true e6)) (fun _ => ?_) (fun e => by cases e)
    apply ex_left
    refine ex_setE (eve_call (eves_cons (eve_l (evl_var rfl)) (eves_cons (eve_m evm_int rfl) eves_nil)) (.mk (by omega))) ?_
    have nl : (newL s.cnt 1).length = 1 := by unfold newL; simp
    refine ex_setE (e_fn (ks := ks ++ newL s.cnt 1) (m := 1) rfl (evm_is (EvN.toM (evn_opM (evm_var rfl) (evm_var rfl) (by rfl) (rdn_add_lst (by rw [List.length_map, List.length_map]; omega)))) (congrArg Dat.lst (List.map_append (f := Dat.int)).symm)) rfl rfl (evm_is (evm_op (evm_var rfl) evm_int (.inl rd_I0)) hdm) evm_int (by rfl) (by rfl) (by rfl) (by omega) (by rw [List.length_append]; omega) ht (by omega)) ?_
    generalize fnC (fun k s => sumC d k tops s) (ks ++ newL s.cnt 1) 1 (s.add 1) = F
    refine ex_setE (e_many (m := 2) rfl rfl rfl rfl (evm_is (evm_op (evm_var rfl) evm_int (.inl rd_I0)) hdm) evm_int (by rfl) (by rfl) (by omega) (by omega) ht (by omega)) ?_
    have hlen := many_len (sumC d ks tops) 2 F.2
    show ExS K _ ⟨_, cst (manyC (sumC d ks tops) 2 F.2).2⟩ _
    have e2 : (manyC (sumC d ks tops) (2 : Int).toNat F.2) = manyC (sumC d ks tops) 2 F.2 := rfl
    rw [e2]
    generalize manyC (sumC d ks tops) 2 F.2 = g at *
    obtain ⟨xs, s2⟩ := g
    have hat0 : atI ((newL s.cnt 1).map Dat.int) 0 = some (.int ((newL s.cnt 1).getD 0 0)) := atI_int (k := 0) (by decide) (by rw [nl]; decide)
    match xs, hlen with
    | [x, y], _ =>
      refine ex_retE (eve_m (evm_is (b := (Core.call (.call (.fn [((newL s.cnt 1).getD 0 0, "x")] F.1) [x]) [y]).dat) (evm_tup (evms_cons evm_str (evms_cons (evm_tup (evms_cons evm_str (evms_cons (evm_tup (evms_cons evm_str (evms_cons (evm_tup (evms_cons (evm_tup (evms_cons (evm_op (evm_var rfl) evm_int (.inl (rd_ixL hat0))) (evms_cons evm_str evms_nil)) (by simp)) evms_nil) (by simp)) (evms_cons (evm_var rfl) evms_nil))) (by simp)) (evms_cons (evm_slT (evm_var rfl) rfl evo_none (evo_someM evm_int)) evms_nil))) (by simp)) (evms_cons (evm_slT (evm_var rfl) rfl (evo_someM evm_int) evo_none) evms_nil))) (by simp)) (by simp only [Core.dat, coresD]; rfl)) (by rfl)) ⟨rfl, rfl⟩
  rw [if_neg e6]
  refine ex_ifs (b := false) (evt_is (evt_testM (evm_op (evm_var rfl) evm_int (.inl rd_eq_int))) (by rw [eq7]; exact decide_eq_false e6)) (fun e => by cases e) (fun _ => ?_)
  apply ex_seqN
  refine ex_setE (e_many (m := 2) rfl rfl rfl rfl (evm_is (evm_op (evm_var rfl) evm_int (.inl rd_I0)) hdm) evm_int (by rfl) (by rfl) (by omega) (by omega) ht (by omega)) ?_
  have hlen := many_len (sumC d ks tops) 2 s
  have e2 : (manyC (sumC d ks tops) (2 : Int).toNat s) = manyC (sumC d ks tops) 2 s := rfl
  rw [e2]
  generalize manyC (sumC d ks tops) 2 s = g at *
  obtain ⟨xs, s2⟩ := g
  match xs, hlen with
  | [x, y], _ =>
    by_cases e7 : more % 4 = 0
    · rw [if_pos e7]
      refine ex_ifs (b := true) (evt_is (evt_testM (evm_op (evm_op (evm_var rfl) evm_int (.inl (rd_I (by decide)))) evm_int (.inl rd_eq_int))) (by rw [eq7]; exact decide_eq_true e7)) (fun _ => ?_) (fun e => by cases e)
      apply ex_left
      exact ex_retE (eve_m (evm_call (evms_cons (evm_op (evm_var rfl) evm_int (.inl (rd_fdiv (by decide +kernel) (by decide +kernel)))) (evms_cons (evm_var rfl) evms_nil)) (.dat .mk)) (by rfl)) ⟨rfl, rfl⟩
    · rw [if_neg e7]
      refine ex_ifs (b := false) (evt_is (evt_testM (evm_op (evm_op (evm_var rfl) evm_int (.inl (rd_I (by decide)))) evm_int (.inl rd_eq_int))) (by rw [eq7]; exact decide_eq_false e7)) (fun e => by cases e) (fun _ => ?_)
      apply ex_seqN
      exact ex_retE (eve_m (evm_is (b := (Core.call (.free "add") [x, y]).dat) (evm_tup (evms_cons evm_str (evms_cons (evm_tup (evms_cons evm_str (evms_cons evm_str evms_nil)) (by simp)) (evms_cons (evm_var rfl) evms_nil))) (by simp)) (by simp only [Core.dat, coresD]; rfl)) (by rfl)) ⟨rfl, rfl⟩
/-! ### the draws -/
def digC (b c : Int) : Nat → List Int × Int
  | 0 => ([], c)
  | n + 1 => ((digC b c n).1 ++ [(digC b c n).2 % b], (digC b c n).2 / b)
def lcgT (s : Int) (n : Nat) : Int := (s * 48271 + 11 + (0 + (n : Int))) % 2147483647
def lcgC (c : Int) : Nat → List Int × Int
  | 0 => ([], c % 2147483647)
  | n + 1 => ((lcgC c n).1 ++ [lcgT (lcgC c n).2 n / 64 * 69621 % 1000003 * (1 + lcgT (lcgC c n).2 n % 997)], lcgT (lcgC c n).2 n)
def wayC (xs : List Int) : Int := (cl xs (1 : Int).toNat * 7919 + 13) % 10007 % 4
def drawC (xs : List Int) (b : Int) : List Int :=
  if wayC xs = 0 then (xs.drop 2).take 59
  else if wayC xs = 1 then (digC b (cl xs (2 : Int).toNat) 59).1
  else (lcgC (cl xs (2 : Int).toNat) (1 + cl xs (2 : Int).toNat % 59).toNat).1
theorem dig_len (b c : Int) : ∀ n, (digC b c n).1.length = n
  | 0 => rfl
  | n + 1 => by unfold digC; rw [List.length_append, dig_len b c n]; rfl
theorem lcg_len (c : Int) : ∀ n, (lcgC c n).1.length = n
  | 0 => rfl
  | n + 1 => by unfold lcgC; rw [List.length_append, lcg_len c n]; rfl
theorem draw_len (xs : List Int) (b : Int) : (drawC xs b).length ≤ 59 := by
  unfold drawC
  split
  · rw [List.length_take]; omega
  split
  · rw [dig_len]; omega
  · rw [lcg_len]
    have m1 := Int.emod_nonneg (cl xs (2 : Int).toNat) (show (59 : Int) ≠ 0 by decide)
    have m2 := Int.emod_lt_of_pos (cl xs (2 : Int).toNat) (show (0 : Int) < 59 by decide)
    omega
inductive P__law_draws : List Dat → Res → Prop
  | mk {xs : List Int} {b : Int} (hb : 0 < b ∧ b.natAbs.log2 < 9000) : P__law_draws [.lst (xs.map Dat.int), .int 2, .int 59, .int b] (.new ((drawC xs b).map Dat.int))
theorem ok__law_draws (T : Tx K mg) : FnOk P w K mg base CX0 2 T.a__law_draws T.d__law_draws ["_law_script", "_law_at", "_law_many_here", "_law_base"] (spF K (P__law_draws)) := by
  refine ok_def (rule_fun T.F__law_draws) sc__law_draws (fun ds r h => by cases h <;> rfl) fun cdv A outer s H E hr => ⟨_, (pss_cons (ps_set (i := 4) sc__law_draws.nd rfl (by first | exact Or.inl rfl | exact Or.inr rfl) (pe_op op_mod (pe_op op_mod (pe_op (op_addK (K := K) rfl) (pe_op op_mulU (pe_call (ok__law_cell_at T) (hr.mono (by first | decide | omega)) (by rfl) T.g__law_cell_at T.F__law_cell_at.kp T.b__law_cell_at .nil pass0 (pa_cons (pv 0) (pa_cons pe_int pa_nil))) pe_int) pe_int) pe_int) pe_int))
      (pss_cons (ps_if (pt_cmpR (op_eqK (K := K) rfl hr.units) (pv 4) pe_int (nomark _)) (pss_one (ps_ret (pe_slice (sl_listK (K := K) rfl) (pv 0) (po_some (pv 1)) (po_some (pe_op (op_addK (K := K) rfl) (pv 1) (pv 2)))))) pss_nil)
      (pss_cons (ps_set (i := 5) sc__law_draws.nd rfl (by first | exact Or.inl rfl | exact Or.inr rfl) (pe_call (ok__law_cell_at T) (hr.mono (by first | decide | omega)) (by rfl) T.g__law_cell_at T.F__law_cell_at.kp T.b__law_cell_at .nil pass0 (pa_cons (pv 0) (pa_cons (pv 1) pa_nil))))
      (pss_cons (ps_set (i := 6) sc__law_draws.nd rfl (by first | exact Or.inl rfl | exact Or.inr rfl) (pe_lst pa_nil))
      (pss_cons (ps_if (pt_cmpR (op_eqK (K := K) rfl hr.units) (pv 4) pe_int (nomark _)) (pss_cons (ps_for PassesOwn.never rfl (pi_range1 (by rfl) T.n_range (pa_cons (pv 2) pa_nil)) (pg_name (i := 8) sc__law_draws.nd rfl (by first | exact Or.inl rfl | exact Or.inr rfl)) (pss_cons (ps_expr (pe_bm PySem.F.plainAttrs_list PySem.F.slot_list_append PySem.F.type_list_append mt_append (pv 6) (pa_cons (pe_op op_mod (pv 5) (pv 3)) pa_nil)))
      (pss_one (ps_set (i := 5) sc__law_draws.nd rfl (by first | exact Or.inl rfl | exact Or.inr rfl) (pe_op op_fdivW (pv 5) (pv 3))))))
      (pss_one (ps_ret (pv 6)))) pss_nil)
      (pss_cons (ps_set (i := 7) sc__law_draws.nd rfl (by first | exact Or.inl rfl | exact Or.inr rfl) (pe_op op_mod (pv 5) pe_int))
      (pss_cons (ps_for PassesOwn.never rfl (pi_range1 (by rfl) T.n_range (pa_cons (pe_op (op_addK (K := K) rfl) pe_int (pe_op op_mod (pv 5) (pv 2))) pa_nil)) (pg_name (i := 8) sc__law_draws.nd rfl (by first | exact Or.inl rfl | exact Or.inr rfl)) (pss_cons (ps_set (i := 7) sc__law_draws.nd rfl (by first | exact Or.inl rfl | exact Or.inr rfl) (pe_op op_mod (pe_op (op_addK (K := K) rfl) (pe_op (op_addK (K := K) rfl) (pe_op op_mulU (pv 7) pe_int) pe_int) (pv 8)) pe_int))
      (pss_one (ps_expr (pe_bm PySem.F.plainAttrs_list PySem.F.slot_list_append PySem.F.type_list_append mt_append (pv 6) (pa_cons (pe_op op_mulU (pe_op op_mod (pe_op op_mulU (pe_op op_fdivW (pv 7) pe_int) pe_int) pe_int) (pe_op (op_addK (K := K) rfl) pe_int (pe_op op_mod (pv 7) pe_int))) pa_nil))))))
      (pss_one (ps_ret (pv 6)))))))))), fun ds r h => ?_⟩
  have hu := hu_of hr
  try dsimp only [L2.Cx.nox, L2.Cx.wish, L2.cxOf]
  cases h with
  | @mk xs b hb =>
  refine ex_setM (evm_op (evm_op (evm_op (evm_op (evm_call (evms_cons (evm_var rfl) (evms_cons evm_int evms_nil)) (.dat (.mk (by decide)))) evm_int (.inl (rd_mulR ⟨by decide, by decide⟩))) evm_int (.inl rd_add_int)) evm_int (.inl (rd_I (by decide)))) evm_int (.inl (rd_I (by decide)))) (by rfl) ?_
  have eq7 : ∀ i j : Int, (i == j) = decide (i = j) := fun i j => by
    rw [Bool.eq_iff_iff]
    simp
  show ExS K _ ⟨[.dat (.lst (xs.map Dat.int)), .dat (.int 2), .dat (.int 59), .dat (.int b), .dat (.int (wayC xs)), .no, .no, .no, .no], []⟩ _
  unfold drawC
  generalize hw : wayC xs = way at *
  by_cases e0 : way = 0
  · rw [if_pos e0]
    refine ex_ifs (b := true) (evt_is (evt_testM (evm_op (evm_var rfl) evm_int (.inl rd_eq_int))) (by rw [eq7]; exact decide_eq_true e0)) (fun _ => ?_) (fun e => by cases e)
    apply ex_left
    refine ex_retN (ds := ((xs.drop 2).take 59).map Dat.int) (evn_is (evn_slM (evm_var rfl) (by rfl) (evo_someM (evm_var rfl)) (evo_someM (evm_op (evm_var rfl) (evm_var rfl) (.inl rd_add_int)))) ?_) ?_
    · rw [show (2 : Int) + 59 = ((61 : Nat) : Int) from rfl, show (2 : Int) = ((2 : Nat) : Int) from rfl, cut_mid, List.map_take, List.map_drop]
    · rfl
  rw [if_neg e0]
  refine ex_ifs (b := false) (evt_is (evt_testM (evm_op (evm_var rfl) evm_int (.inl rd_eq_int))) (by rw [eq7]; exact decide_eq_false e0)) (fun e => by cases e) (fun _ => ?_)
  apply ex_seqN
  refine ex_setM (evm_call (evms_cons (evm_var rfl) (evms_cons (evm_var rfl) evms_nil)) (.dat (.mk (by decide)))) (by rfl) ?_
  generalize cl xs (2 : Int).toNat = c
  apply ex_setN
  · exact evn_lst eva_nil
  by_cases e1 : way = 1
  · rw [if_pos e1]
    refine ex_ifs (b := true) (evt_is (evt_testM (evm_op (evm_var rfl) evm_int (.inl rd_eq_int))) (by rw [eq7]; exact decide_eq_true e1)) (fun _ => ?_) (fun e => by cases e)
    apply ex_left
    refine ex_for1 (j := 8) (ds := fromto 0 59) (fun i ε => ∃ v, ε = ⟨[.dat (.lst (xs.map Dat.int)), .dat (.int 2), .dat (.int 59), .dat (.int b), .dat (.int way), .dat (.int (digC b c i).2), .own ((digC b c i).1.map Dat.int), .no, v], []⟩) (evw_rng1M (n := 59) (evms_cons (evm_var rfl) evms_nil) ⟨by decide, by decide⟩) ⟨.no, rfl⟩ ?_ ?_
    · rintro i x _ hx ⟨v, rfl⟩
      have hi : i < 59 := by
        have := (List.getElem?_eq_some_iff.mp hx).1
        rwa [fromto_len] at this
      refine ex_appM (i := 6) rfl (evm_op (evm_var rfl) (evm_var rfl) (.inl (rd_I hb.1))) (by rfl) (by rw [List.length_map, dig_len]; omega) ?_
      apply ex_one
      refine ex_setM (evm_op (evm_var rfl) (evm_var rfl) (.inl (rd_fdiv hb.1 hb.2))) (by rfl) ?_
      apply ex_next
      refine ⟨.dat x, ?_⟩
      show _ = Sta.mk [_, _, _, _, _, .dat (.int (digC b c (i + 1)).2), .own ((digC b c (i + 1)).1.map Dat.int), _, _] []
      conv => rhs; unfold digC
      dsimp only
      rw [List.map_append]
      rfl
    rintro _ ⟨v, rfl⟩
    rw [fromto_len]
    exact ex_retO rfl rfl
  rw [if_neg e1]
  refine ex_ifs (b := false) (evt_is (evt_testM (evm_op (evm_var rfl) evm_int (.inl rd_eq_int))) (by rw [eq7]; exact decide_eq_false e1)) (fun e => by cases e) (fun _ => ?_)
  apply ex_seqN
  refine ex_setM (evm_op (evm_var rfl) evm_int (.inl (rd_I (by decide)))) (by rfl) ?_
  have m1 := Int.emod_nonneg c (show (59 : Int) ≠ 0 by decide)
  have m2 := Int.emod_lt_of_pos c (show (0 : Int) < 59 by decide)
  refine ex_for1 (j := 8) (ds := fromto 0 (1 + c % 59).toNat) (fun i ε => ∃ v, ε = ⟨[.dat (.lst (xs.map Dat.int)), .dat (.int 2), .dat (.int 59), .dat (.int b), .dat (.int way), .dat (.int c), .own ((lcgC c i).1.map Dat.int), .dat (.int (lcgC c i).2), v], []⟩) (evw_rng1M (evms_cons (evm_op evm_int (evm_op (evm_var rfl) (evm_var rfl) (.inl (rd_I (by decide)))) (.inl rd_add_int)) evms_nil) ⟨by omega, by omega⟩) ⟨.no, rfl⟩ ?_ ?_
  · rintro i x _ hx ⟨v, rfl⟩
    have hi : i < (1 + c % 59).toNat := by
      have := (List.getElem?_eq_some_iff.mp hx).1
      rwa [fromto_len] at this
    obtain rfl : x = .int (0 + (i : Int)) := by
      unfold fromto at hx
      rw [List.getElem?_map, List.getElem?_range hi] at hx
      cases hx
      rfl
    refine ex_setM (evm_op (evm_op (evm_op (evm_op (evm_var rfl) evm_int (.inl (rd_mulR ⟨by decide, by decide⟩))) evm_int (.inl rd_add_int)) (evm_var rfl) (.inl rd_add_int)) evm_int (.inl (rd_I (by decide)))) (by rfl) ?_
    have t1 := Int.emod_nonneg (lcgT (lcgC c i).2 i) (show (997 : Int) ≠ 0 by decide)
    have t2 := Int.emod_lt_of_pos (lcgT (lcgC c i).2 i) (show (0 : Int) < 997 by decide)
    show ExS K _ ⟨[_, _, _, _, _, _, _, .dat (.int (lcgT (lcgC c i).2 i)), .dat (.int (0 + (i : Int)))], []⟩ _
    have hs : lcgC c (i + 1) = ((lcgC c i).1 ++ [lcgT (lcgC c i).2 i / 64 * 69621 % 1000003 * (1 + lcgT (lcgC c i).2 i % 997)], lcgT (lcgC c i).2 i) := rfl
    generalize lcgT (lcgC c i).2 i = t at *
    apply ex_one
    refine ex_appM (i := 6) rfl (evm_op (evm_op (evm_op (evm_op (evm_var rfl) evm_int (.inl (rd_fdiv (by decide +kernel) (by decide +kernel)))) evm_int (.inl (rd_mulR ⟨by decide, by decide⟩))) evm_int (.inl (rd_I (by decide)))) (evm_op evm_int (evm_op (evm_var rfl) evm_int (.inl (rd_I (by decide)))) (.inl rd_add_int)) (.inl (rd_mulR ⟨by omega, by omega⟩))) (by rfl) (by rw [List.length_map, lcg_len]; omega) ?_
    apply ex_next
    refine ⟨.dat (.int (0 + (i : Int))), ?_⟩
    rw [hs]
    dsimp only
    rw [List.map_append]
    rfl
  rintro _ ⟨v, rfl⟩
  rw [fromto_len]
  exact ex_retO rfl rfl
/-! ### the items -/
structure Good (c : Core) : Prop where
  sz : c.sz ≤ 500
  pl : PL 26 c
inductive P__law_items : PX
  | mk {cells : List Int} {hd n : Int} (hl : cells.length ≤ 59) : P__law_items [.dat (.lst (cells.map Dat.int)), .dat (.int hd), .loc 0] [.lst [.dat (.int n)]]
      (fun x _ => ∃ (fs : List Def) (shs : List Core), x = .dat (.lst ((fs.map Def.item ++ shs.map Item.shw).map Item.dat)) ∧ (∀ f ∈ fs, Good f.c ∧ f.x = "f") ∧ (∀ c ∈ shs, Good c) ∧ fs.length < 3 ∧ shs.length ≤ 59)
theorem good_sum {tops : List (Int × Int)} (ht : Tops tops) (ks : List Int) (s : St) : Good (sumC 3 ks tops s).1 ∧ (sumC 3 ks tops s).2.ds.length ≤ s.ds.length - 1 := by
  obtain ⟨a, b⟩ := sum_fit 3 ks tops s ht.ok
  exact ⟨⟨by have := a.sz; have h3 : szB 3 = 287 := rfl; omega, a.pl' (by omega)⟩, b⟩
theorem ok__law_items (T : Tx K mg) : FnOk P w K mg base CX0 14 T.a__law_items T.d__law_items ["_law_cells", "_law_head", "_law_count"] (spX K (P__law_items)) := by
  refine ok_defX (rule_fun T.F__law_items) sc__law_items (fun xs ω Ψ h => by cases h <;> rfl) fun cdv A outer s H E hr => ⟨_, (pss_cons (ps_set (i := 3) sc__law_items.nd rfl (by first | exact Or.inl rfl | exact Or.inr rfl) (pe_revLK (K := K) rfl (pv 0)))
      (pss_cons (ps_set (i := 4) sc__law_items.nd rfl (by first | exact Or.inl rfl | exact Or.inr rfl) (pe_lst pa_nil))
      (pss_cons (ps_for PassesOwn.never rfl (pi_listK (K := K) rfl (pe_call (ok__law_new T) (hr.mono (by first | decide | omega)) (by rfl) T.g__law_new T.F__law_new.kp T.b__law_new .nil pass0 (pa_cons (pv 2) (pa_cons (pe_op op_mod (pv 1) pe_int) pa_nil)))) (pg_name (i := 5) sc__law_items.nd rfl (by first | exact Or.inl rfl | exact Or.inr rfl)) (pss_one (ps_expr (pe_bm PySem.F.plainAttrs_list PySem.F.slot_list_append PySem.F.type_list_append mt_append (pv 4) (pa_cons (pe_tup (pa_cons (pv 5) (pa_cons (pe_op op_mod (pe_op (op_addK (K := K) rfl) (pe_op op_fdivW (pv 1) pe_int) (pv 5)) pe_int) pa_nil))) pa_nil)))))
      (pss_cons (ps_set (i := 6) sc__law_items.nd rfl (by first | exact Or.inl rfl | exact Or.inr rfl) (pe_lst pa_nil))
      (pss_cons (ps_for PassesOwn.never rfl (pi_listK (K := K) rfl (pv 4)) (pg_name (i := 7) sc__law_items.nd rfl (by first | exact Or.inl rfl | exact Or.inr rfl)) (pss_cons (ps_if (pt_cmpR (op_eqK (K := K) rfl hr.units) (pe_op op_mod (pe_op (op_addK (K := K) rfl) (pv 1) (pe_ix (ix_seqK (K := K) rfl) (pv 7) pe_int (fun _ _ => rfl))) pe_int) pe_int (nomark _)) (pss_cons (ps_set (i := 5) sc__law_items.nd rfl (by first | exact Or.inl rfl | exact Or.inr rfl) (pe_ix (ix_seqK (K := K) rfl) (pe_call (ok__law_new T) (hr.mono (by first | decide | omega)) (by rfl) T.g__law_new T.F__law_new.kp T.b__law_new .nil pass0 (pa_cons (pv 2) (pa_cons pe_int pa_nil))) pe_int (fun _ _ => rfl)))
      (pss_cons (ps_set (i := 8) sc__law_items.nd rfl (by first | exact Or.inl rfl | exact Or.inr rfl) (pe_tup (pa_cons pe_str (pa_cons (pe_tup (pa_cons (pe_tup (pa_cons (pv 5) (pa_cons pe_str pa_nil))) pa_nil)) (pa_cons (pe_call (ok__law_fn T (ok__law_sum T 5)) (hr.mono (by first | decide | omega)) (by rfl) T.g__law_fn T.F__law_fn.kp T.b__law_fn .nil pass0 (pa_cons (pv 3) (pa_cons pe_int (pa_cons (pe_lst (pa_cons (pv 5) pa_nil)) (pa_cons (pv 4) (pa_cons (pv 2) (pa_cons (pe_ix (ix_seqK (K := K) rfl) (pv 7) pe_int (fun _ _ => rfl)) pa_nil))))))) pa_nil)))))
      (pss_one (ps_set (i := 9) sc__law_items.nd rfl (by first | exact Or.inl rfl | exact Or.inr rfl) (pe_tup (pa_cons pe_str (pa_cons (pv 8) (pa_cons (pe_tup (pa_cons (pe_tup (pa_cons pe_str (pa_cons (pe_op op_mod (pv 1) (pe_op op_pow pe_int pe_int)) pa_nil))) pa_nil)) pa_nil)))))))) (pss_one (ps_set (i := 9) sc__law_items.nd rfl (by first | exact Or.inl rfl | exact Or.inr rfl) (pe_call (ok__law_fn T (ok__law_sum T 5)) (hr.mono (by first | decide | omega)) (by rfl) T.g__law_fn T.F__law_fn.kp T.b__law_fn .nil pass0 (pa_cons (pv 3) (pa_cons pe_int (pa_cons (pe_lst pa_nil) (pa_cons (pv 4) (pa_cons (pv 2) (pa_cons (pe_ix (ix_seqK (K := K) rfl) (pv 7) pe_int (fun _ _ => rfl)) pa_nil))))))))))
      (pss_one (ps_expr (pe_bm PySem.F.plainAttrs_list PySem.F.slot_list_append PySem.F.type_list_append mt_append (pv 6) (pa_cons (pe_tup (pa_cons pe_str (pa_cons (pe_ix (ix_seqK (K := K) rfl) (pv 7) pe_int (fun _ _ => rfl)) (pa_cons pe_str (pa_cons (pv 9) pa_nil))))) pa_nil))))))
      (pss_cons (ps_while PassesOwn.never (pt_cmpR op_gt (pe_callB (call_lenK (K := K) rfl) (by rfl) T.n_len (by decide +kernel) (pa_cons (pv 3) pa_nil)) pe_int (nomark _)) (pss_one (ps_expr (pe_bm PySem.F.plainAttrs_list PySem.F.slot_list_append PySem.F.type_list_append mt_append (pv 6) (pa_cons (pe_tup (pa_cons pe_str (pa_cons (pe_call (ok__law_sum T 5) (hr.mono (by first | decide | omega)) (by rfl) T.g__law_sum T.F__law_sum.kp T.b__law_sum .nil pass0 (pa_cons (pv 3) (pa_cons pe_int (pa_cons (pe_lst pa_nil) (pa_cons (pv 4) (pa_cons (pv 2) pa_nil)))))) pa_nil))) pa_nil)))))
      (pss_one (ps_ret (pv 6))))))))), fun xs ω Ψ h => ?_⟩
  have hu := hu_of hr
  try dsimp only [L2.Cx.nox, L2.Cx.wish, L2.cxOf]
  cases h with
  | @mk cells hd n hl =>
  show ExS K _ ⟨[.dat (.lst (cells.map Dat.int)), .dat (.int hd), .loc 0, .no, .no, .no, .no, .no, .no, .no], [.lst [.dat (.int n)]]⟩ _
  refine ex_setE (eve_new (evn_rev (EvM.toD (evm_var rfl) rfl))) ?_
  have hc0 : [Cell.lst [.dat (.int n)]] ++ [Cell.lst (((cells.map Dat.int).reverse).map Vl.dat)] = cst ⟨n, cells⟩ := by simp [cst]
  show ExS K _ ⟨[.dat (.lst (cells.map Dat.int)), .dat (.int hd), .loc 0, .loc 1, .no, .no, .no, .no, .no, .no], [Cell.lst [.dat (.int n)]] ++ [Cell.lst (((cells.map Dat.int).reverse).map Vl.dat)]⟩ _
  rw [hc0]
  apply ex_setN
  · exact evn_lst eva_nil
  have m1 := Int.emod_nonneg hd (show (3 : Int) ≠ 0 by decide)
  have m2 := Int.emod_lt_of_pos hd (show (0 : Int) < 3 by decide)
  have nl : ∀ (c m : Int), (newL c m).length = m.toNat := fun c m => by unfold newL; simp
  refine ex_forE (fun i ε => ∃ v, ε = ⟨[.dat (.lst (cells.map Dat.int)), .dat (.int hd), .loc 0, .loc 1, .own ((((newL n (hd % 3)).take i).map fun p => (p, (hd / 3 + p) % 3)).map topD), v, .no, .no, .no, .no], cst ⟨n + hd % 3, cells⟩⟩) (evwe_list (eve_call (eves_cons (eve_l (evl_var rfl)) (eves_cons (eve_m (evm_op (evm_var rfl) evm_int (.inl (rd_I (by decide)))) (by rfl)) eves_nil)) (.mk ⟨m1, by omega⟩))) ⟨.no, rfl⟩ ?_ ?_
  · rintro i d _ hd' ⟨v, rfl⟩
    rw [List.getElem?_map] at hd'
    obtain ⟨p, hp, rfl⟩ : ∃ p, (newL n (hd % 3))[i]? = some p ∧ d = .int p := by
      have hd' : Option.map Dat.int (newL n (hd % 3))[i]? = some d := hd'
      cases e : (newL n (hd % 3))[i]? with
      | none => rw [e] at hd'; cases hd'
      | some p => rw [e] at hd'; cases hd'; exact ⟨p, rfl, rfl⟩
    have hi : i < (newL n (hd % 3)).length := (List.getElem?_eq_some_iff.mp hp).1
    have htk : (newL n (hd % 3)).take (i + 1) = (newL n (hd % 3)).take i ++ [p] := by rw [List.take_add_one, hp]; rfl
    refine ⟨_, eg_name, ?_⟩
    apply ex_one
    refine ex_appM (i := 4) rfl (evm_tup (evms_cons (evm_var rfl) (evms_cons (evm_op (evm_op (evm_op (evm_var rfl) evm_int (.inl (rd_fdiv (by decide +kernel) (by decide +kernel)))) (evm_var rfl) (.inl rd_add_int)) evm_int (.inl (rd_I (by decide)))) evms_nil)) (by simp)) (by rfl) (by have := nl n (hd % 3); rw [List.length_map, List.length_map, List.length_take]; omega) ?_
    apply ex_next
    refine ⟨.dat (.int p), ?_⟩
    rw [htk, List.map_append, List.map_append]
    rfl
  rintro _ ⟨v, rfl⟩
  have hlen : ((newL n (hd % 3)).map Dat.int).length = (newL n (hd % 3)).length := List.length_map _
  have e9 : (newL (St.mk n cells).cnt (hd % 3)).map Dat.int = (newL n (hd % 3)).map Dat.int := rfl
  rw [e9, hlen, List.take_of_length_le (Nat.le_refl _)]
  refine ex_stand (i := 4) rfl ?_
  apply ex_setN
  · exact evn_lst eva_nil
  have hT : Tops ((newL n (hd % 3)).map fun p => (p, (hd / 3 + p) % 3)) := ⟨by rw [List.length_map, nl]; omega, fun t ht => by
    obtain ⟨p, _, rfl⟩ := List.mem_map.mp ht
    have a1 := Int.emod_nonneg (hd / 3 + p) (show (3 : Int) ≠ 0 by decide)
    have a2 := Int.emod_lt_of_pos (hd / 3 + p) (show (0 : Int) < 3 by decide)
    exact ⟨a1, a2⟩⟩
  have hTl : ((newL n (hd % 3)).map fun p => (p, (hd / 3 + p) % 3)).length < 3 := by rw [List.length_map, nl]; omega
  generalize ((newL n (hd % 3)).map fun p => (p, (hd / 3 + p) % 3)) = tops at hT hTl ⊢
  have eq7 : ∀ i j : Int, (i == j) = decide (i = j) := fun i j => by
    rw [Bool.eq_iff_iff]
    simp
  refine ex_for1 (j := 7) (ds := tops.map topD) (fun i ε => ∃ (fs : List Def) (s : St) (a5 a7 a8 a9 : Sl), ε = ⟨[.dat (.lst (cells.map Dat.int)), .dat (.int hd), .loc 0, .loc 1, .dat (.lst (tops.map topD)), a5, .own ((fs.map Def.item).map Item.dat), a7, a8, a9], cst s⟩ ∧ (∀ f ∈ fs, Good f.c ∧ f.x = "f") ∧ fs.length = i ∧ s.ds.length ≤ 59) (evw_listM (evm_var rfl) rfl) ⟨[], ⟨n + hd % 3, cells⟩, v, .no, .no, .no, rfl, fun f h => (by cases h), rfl, hl⟩ ?_ ?_
  · rintro i d _ hdd ⟨fs, s, a5, a7, a8, a9, rfl, hf, hi, hs⟩
    rw [List.getElem?_map] at hdd
    obtain ⟨t, ht, rfl⟩ : ∃ t, tops[i]? = some t ∧ d = topD t := by
      cases e : tops[i]? with
      | none => rw [e] at hdd; cases hdd
      | some p => rw [e] at hdd; cases hdd; exact ⟨p, rfl, rfl⟩
    have hmem := List.mem_of_getElem? ht
    have hok := hT.ok t hmem
    obtain ⟨d1, d2, d3⟩ := def_fit (hd := hd) hT.ok hmem s
    refine ex_cut (fun ε => ∃ a5 a8, ε = ⟨[.dat (.lst (cells.map Dat.int)), .dat (.int hd), .loc 0, .loc 1, .dat (.lst (tops.map topD)), a5, .own ((fs.map Def.item).map Item.dat), .dat (topD t), a8, .dat (defC hd tops t s).1.dat], cst (defC hd tops t s).2⟩) ?_ ?_
    · show ExS K _ ⟨[.dat (.lst (cells.map Dat.int)), .dat (.int hd), .loc 0, .loc 1, .dat (.lst (tops.map topD)), a5, .own ((fs.map Def.item).map Item.dat), .dat (topD t), a8, a9], cst s⟩ _
      by_cases e : (hd + t.1) % 2 = 1
      · refine ex_if (b := true) (evt_is (evt_testM (evm_op (evm_op (evm_op (evm_var rfl) (evm_op (evm_is (b := .tup [.int t.1, .int t.2]) (evm_var rfl) rfl) evm_int (.inl (rd_ixT rfl))) (.inl rd_add_int)) evm_int (.inl (rd_I (by decide)))) evm_int (.inl rd_eq_int))) (by rw [eq7]; exact decide_eq_true e)) (fun _ => ?_) (fun e => by cases e)
        have nl1 : (newL s.cnt 1).length = 1 := by rw [nl]; rfl
        have hat0 : atI ((newL s.cnt 1).map Dat.int) 0 = some (.int ((newL s.cnt 1).getD 0 0)) := atI_int (k := 0) (by decide) (by rw [nl1]; decide)
        refine ex_setE (eve_op (eve_call (eves_cons (eve_l (evl_var rfl)) (eves_cons (eve_m evm_int rfl) eves_nil)) (.mk ⟨by decide, by decide⟩)) (eve_m evm_int rfl) (rd_ixL hat0)) ?_
        refine ex_setE (eve_tup (ds := [.str "fn", .tup [.tup [.int ((newL s.cnt 1).getD 0 0), .str "x"]], (fnC (fun k s => sumC 3 k tops s) [(newL s.cnt 1).getD 0 0] t.2 (s.add 1)).1.dat]) (eves_cons (eve_d evd_str) (eves_cons (eve_m (evm_tup (evms_cons (evm_tup (evms_cons (evm_var rfl) (evms_cons evm_str evms_nil)) (by simp)) evms_nil) (by simp)) (by rfl)) (eves_cons (e_fn (d := 3) (ks := [(newL s.cnt 1).getD 0 0]) (m := t.2) rfl (evm_lst (evms_cons (evm_var rfl) evms_nil) (by simp)) rfl rfl (evm_is evm_int rfl) (evm_op (evm_is (b := .tup [.int t.1, .int t.2]) (evm_var rfl) rfl) evm_int (.inl (rd_ixT rfl))) (by rfl) (by rfl) (by rfl) (by omega) (by simp) hT (by omega)) eves_nil))) (by simp)) ?_
        apply ex_one
        refine ex_setM (evm_tup (evms_cons evm_str (evms_cons (evm_var rfl) (evms_cons (evm_tup (evms_cons (evm_tup (evms_cons evm_str (evms_cons (evm_op (evm_var rfl) (evm_op evm_int evm_int (.inl (rd_I ⟨by decide, by decide⟩))) (.inl (rd_I (by decide +kernel)))) evms_nil)) (by simp)) evms_nil) (by simp)) evms_nil))) (by simp)) (by rfl) ?_
        apply ex_next
        show ∃ _ _, _ = _
        have hD : defC hd tops t s = (let p := (newL s.cnt 1).getD 0 0
          let f := fnC (fun k s => sumC 3 k tops s) [p] t.2 (s.add 1)
          (.call (.fn [(p, "x")] f.1) [.num (hd % 10 ^ 18)], f.2)) := by unfold defC; rw [if_pos e]
        rw [hD]
        dsimp only
        generalize fnC (fun k s => sumC 3 k tops s) [(newL s.cnt 1).getD 0 0] t.2 (s.add 1) = F
        have hcd : (Core.call (.fn [((newL s.cnt 1).getD 0 0, "x")] F.1) [.num (hd % 10 ^ 18)]).dat = .tup [.str "call", .tup [.str "fn", .tup [.tup [.int ((newL s.cnt 1).getD 0 0), .str "x"]], F.1.dat], .tup [.tup [.str "num", .int (hd % 10 ^ (18 : Int).toNat)]]] := by simp only [Core.dat, coresD]; rfl
        rw [hcd]
        exact ⟨_, _, rfl⟩
      · refine ex_if (b := false) (evt_is (evt_testM (evm_op (evm_op (evm_op (evm_var rfl) (evm_op (evm_is (b := .tup [.int t.1, .int t.2]) (evm_var rfl) rfl) evm_int (.inl (rd_ixT rfl))) (.inl rd_add_int)) evm_int (.inl (rd_I (by decide)))) evm_int (.inl rd_eq_int))) (by rw [eq7]; exact decide_eq_false e)) (fun e => by cases e) (fun _ => ?_)
        apply ex_one
        refine ex_setE (e_fn (d := 3) (ks := []) (m := t.2) rfl (evm_lst evms_nil (by simp)) rfl rfl (evm_is evm_int rfl) (evm_op (evm_is (b := .tup [.int t.1, .int t.2]) (evm_var rfl) rfl) evm_int (.inl (rd_ixT rfl))) (by rfl) (by rfl) (by rfl) (by omega) (by simp) hT (by omega)) ?_
        apply ex_next
        show ∃ _ _, _ = _
        have hD : defC hd tops t s = fnC (fun k s => sumC 3 k tops s) [] t.2 s := by unfold defC; rw [if_neg e]
        rw [hD]
        exact ⟨_, _, rfl⟩
    rintro _ ⟨b5, b8, rfl⟩
    generalize defC hd tops t s = D at *
    apply ex_one
    refine ex_appM (i := 6) rfl (evm_tup (evms_cons evm_str (evms_cons (evm_op (evm_is (b := .tup [.int t.1, .int t.2]) (evm_var rfl) rfl) evm_int (.inl (rd_ixT rfl))) (evms_cons evm_str (evms_cons (evm_var rfl) evms_nil)))) (by simp)) (by rfl) (by
      have := (List.getElem?_eq_some_iff.mp ht).1
      rw [List.length_map, List.length_map]
      omega) ?_
    apply ex_next
    refine ⟨fs ++ [⟨t.1, "f", D.1⟩], D.2, b5, .dat (topD t), b8, .dat D.1.dat, ?_, fun f hm => ?_, by rw [List.length_append, hi]; rfl, by omega⟩
    · rw [List.map_append, List.map_append]
      rfl
    · rcases List.mem_append.mp hm with hm | hm
      · exact hf f hm
      · rw [List.mem_singleton.mp hm]
        exact ⟨⟨d1, d2⟩, rfl⟩
  rintro _ ⟨fs, s, a5, a7, a8, a9, rfl, hf, hi, hs⟩
  have hfl : fs.length < 3 := by rw [hi, List.length_map]; exact hTl
  refine ex_while (fun m ε => ∃ (shs : List Core) (s : St), ε = ⟨[.dat (.lst (cells.map Dat.int)), .dat (.int hd), .loc 0, .loc 1, .dat (.lst (tops.map topD)), a5, .own ((fs.map Def.item ++ shs.map Item.shw).map Item.dat), a7, a8, a9], cst s⟩ ∧ (∀ c ∈ shs, Good c) ∧ s.ds.length = m ∧ shs.length + m ≤ 59) s.ds.length ⟨[], s, by rw [List.map_nil, List.append_nil], fun c h => (by cases h), rfl, by simpa using hs⟩ ?_
  rintro m _ ⟨shs, s, rfl, hg, hm, hl2⟩
  obtain ⟨cn, ds⟩ := s
  cases ds with
  | nil =>
    refine ⟨false, evt_is (evt_testM (evm_op (evm_cb (evms_cons (.now (evh_cell (l := 1) (ds := []) (evl_var rfl) rfl)) evms_nil) (.inl rc_lenK)) evm_int (.inl rd_B0))) rfl, fun e => (by cases e), fun _ => ?_⟩
    refine ex_stand (i := 6) rfl ?_
    exact ex_retE (eve_m (evm_var rfl) (by rfl)) ⟨fs, shs, rfl, hf, hg, hfl, by omega⟩
  | cons x r =>
    refine ⟨true, evt_is (evt_testM (evm_op (evm_cb (evms_cons (.now (evh_cell (l := 1) (ds := (x :: r).reverse.map Dat.int) (evl_var rfl) rfl)) evms_nil) (.inl rc_lenK)) evm_int (.inl rd_B0))) (by simp), fun _ => ?_, fun e => by cases e⟩
    obtain ⟨g1, g2⟩ := good_sum hT [] ⟨cn, x :: r⟩
    apply ex_one
    refine ex_appOE (i := 6) (d := .tup [.str "show", (sumC 3 [] tops ⟨cn, x :: r⟩).1.dat]) rfl (eve_tup (ds := [.str "show", (sumC 3 [] tops ⟨cn, x :: r⟩).1.dat]) (eves_cons (eve_d evd_str) (eves_cons (eve_call (eves_cons (eve_l (evl_var rfl)) (eves_cons (eve_m (evm_is evm_int rfl) (by rfl)) (eves_cons (eve_m (evm_lst evms_nil (by simp)) (by rfl)) (eves_cons (eve_m (evm_var rfl) rfl) (eves_cons (eve_l (evl_var rfl)) eves_nil))))) (.mk (d := 3) (ks := []) (by omega) (by simp) hT)) eves_nil)) (by simp)) (by rw [List.length_map, List.length_append, List.length_map, List.length_map]; omega) ?_
    generalize sumC 3 [] tops ⟨cn, x :: r⟩ = S at *
    apply ex_next
    refine ⟨S.2.ds.length, by rw [← hm]; rw [List.length_cons] at g2; show _ < (x :: r).length; rw [List.length_cons]; omega, shs ++ [S.1], S.2, ?_, fun c hc => ?_, rfl, ?_⟩
    · rw [List.map_append, List.map_append, List.map_append, List.map_append]
      rw [List.append_assoc]
      rfl
    · rcases List.mem_append.mp hc with hc | hc
      · exact hg c hc
      · rw [List.mem_singleton.mp hc]
        exact g1
    · have hm : (x :: r).length = m := hm
      rw [List.length_cons] at hm g2
      rw [List.length_append, List.length_singleton]
      omega
/-! ### what is told -/
inductive Row (n i : Nat) : Dat → Prop
  | num {m : Int} : Row n i (.tup [.str "num", .int m])
  | fn {m : Int} : Row n i (.tup [.str "fn", .int m])
  | op {x : Str} : Row n i (.tup [.str "op", .str x])
  | stuck (h : i + 1 = n) : Row n i (.tup [.str "stuck"])
  | on (h : i + 1 = n) : Row n i (.tup [.str "on"])
theorem row_told {n i : Nat} (v : Val) : Row n i (told v) := by
  cases v with
  | num m => exact .num
  | op x => exact .op
  | fn ps b ks vs => exact .fn
theorem row_of {m n : Nat} {vs : List Val} {t : List Dat} (h : Told m n vs t) {i : Nat} {d : Dat} (hd : (vs.map told ++ t)[i]? = some d) : Row (vs.map told ++ t).length i d := by
  by_cases hi : i < (vs.map told).length
  · rw [List.getElem?_append_left hi, List.getElem?_map] at hd
    cases e : vs[i]? with
    | none => rw [e] at hd; cases hd
    | some v => rw [e] at hd; cases hd; exact row_told v
  · rw [List.getElem?_append_right (by omega)] at hd
    have := h.e
    cases this with
    | no => cases hd
    | stuck =>
      have lt := (List.getElem?_eq_some_iff.mp hd).1
      rw [List.length_singleton] at lt
      have e0 : i - (vs.map told).length = 0 := by omega
      rw [e0] at hd
      cases hd
      exact .stuck (by rw [List.length_append, List.length_singleton]; omega)
    | on =>
      have lt := (List.getElem?_eq_some_iff.mp hd).1
      rw [List.length_singleton] at lt
      have e0 : i - (vs.map told).length = 0 := by omega
      rw [e0] at hd
      cases hd
      exact .on (by rw [List.length_append, List.length_singleton]; omega)
theorem told_len {n : Nat} {vs : List Val} {t : List Dat} (h : Told (max n 1) n vs t) : (vs.map told ++ t).length ≤ max n 1 := by
  rw [List.length_append, List.length_map]
  have := h.e
  cases this with
  | no => have := h.all rfl; rw [List.length_nil]; omega
  | stuck => have := h.few (by simp); rw [List.length_singleton]; omega
  | on => have := h.few (by simp); rw [List.length_singleton]; omega
inductive P__law_whole : List Dat → Res → Prop
  | mk {n : Nat} {vs : List Val} {t : List Dat} (h : Told (max n 1) n vs t) (hn : n < 1000) : P__law_whole [.lst (vs.map told ++ t), .int (n : Int)] (.dat (.bl true))
local macro_rules | `(tactic| walk_at "isTup") => `(tactic| (refine ex_ifs (b := false) (evt_is (evt_or (a := false) (b := false) (evt_is (evt_not (evt_testM (evm_cb (evms_cons (evm_var rfl) (evms_cons evm_ty evms_nil)) (.inl (rc_isTy rfl (by decide)))))) (by simp)) fun _ => evt_is (evt_testM (evm_op (evm_cb (evms_cons (evm_var rfl) evms_nil) (.inl rc_lenT)) evm_int (.inl rd_B0))) (by simp)) rfl) (fun e => by cases e) (fun _ => ?_); apply ex_seqN))
local macro_rules | `(tactic| walk_at "two") => `(tactic| (refine ex_ifs (b := false) (evt_is (evt_and (a := false) (b := false) (evt_is (evt_testM (evm_op (evm_cb (evms_cons (evm_var rfl) evms_nil) (.inl rc_lenT)) evm_int (.inl rd_eq_int))) (by simp)) fun e => by cases e) rfl) (fun e => by cases e) (fun _ => ?_); apply ex_seqN))
local macro_rules | `(tactic| walk_at "kinds") => `(tactic| (refine ex_ifs (b := false) (evt_is (evt_or (a := false) (b := false) (evt_is (evt_and (a := true) (b := false) (evt_is (evt_testM (evm_op (evm_cb (evms_cons (evm_var rfl) evms_nil) (.inl rc_lenT)) evm_int (.inl rd_B0))) (by simp)) fun _ => evt_is (evt_testM (evm_op (evm_op (evm_var rfl) evm_int (.inl (rd_ixT rfl))) (evm_lst (evms_cons evm_str (evms_cons evm_str (evms_cons evm_str evms_nil))) (by simp)) (.inl (rd_ninL rfl (by simp [Dat.flat]))))) (by decide +kernel)) rfl) fun _ => evt_is (evt_testM (evm_op (evm_cb (evms_cons (evm_var rfl) evms_nil) (.inl rc_lenT)) evm_int (.inl rd_B0))) (by simp)) rfl) (fun e => by cases e) (fun _ => ?_); apply ex_seqN))
local macro_rules | `(tactic| walk_at "whole") => `(tactic| (refine ex_if (b := false) (evt_is (evt_and (a := true) (b := false) (evt_is (evt_testM (evm_op (evm_cb (evms_cons (evm_var rfl) evms_nil) (.inl rc_lenT)) evm_int (.inl rd_eq_int))) (by simp)) fun _ => evt_is (evt_and (a := true) (b := false) (evt_is (evt_testM (evm_op (evm_op (evm_var rfl) evm_int (.inl (rd_ixT rfl))) evm_str (.inl rd_ne_str))) (by decide +kernel)) fun _ => evt_is (evt_or (a := false) (b := false) (evt_is (evt_not (evt_testM (evm_cb (evms_cons (evm_op (evm_var rfl) evm_int (.inl (rd_ixT rfl))) (evms_cons evm_ty evms_nil)) (.inl (rc_isTy rfl (by decide)))))) (by simp)) fun _ => evt_is (evt_testM (evm_cb (evms_cons (evm_op (evm_var rfl) evm_int (.inl (rd_ixT rfl))) (evms_cons evm_ty evms_nil)) (.inl (rc_isTy rfl (by decide))))) (by simp)) rfl) rfl) rfl) (fun e => by cases e) (fun _ => ?_)))
local macro_rules | `(tactic| walk_at "wholeOp") => `(tactic| (refine ex_if (b := false) (evt_is (evt_and (a := true) (b := false) (evt_is (evt_testM (evm_op (evm_cb (evms_cons (evm_var rfl) evms_nil) (.inl rc_lenT)) evm_int (.inl rd_eq_int))) (by simp)) fun _ => evt_is (evt_and (a := false) (b := false) (evt_is (evt_testM (evm_op (evm_op (evm_var rfl) evm_int (.inl (rd_ixT rfl))) evm_str (.inl rd_ne_str))) (by decide +kernel)) fun e => by cases e) rfl) rfl) (fun e => by cases e) (fun _ => ?_)))
local macro_rules | `(tactic| walk_at "last") => `(tactic| (refine ex_ifs (b := false) (evt_is (evt_and (a := true) (b := false) (evt_is (evt_testM (evm_op (evm_cb (evms_cons (evm_var rfl) evms_nil) (.inl rc_lenT)) evm_int (.inl rd_eq_int))) (by simp)) fun _ => evt_is (evt_or (a := false) (b := false) (evt_is (evt_testM (evm_op (evm_var rfl) (evm_op (evm_cb (evms_cons (evm_var rfl) evms_nil) (.inl rc_lenK)) evm_int (.inl rd_I0)) (.inl rd_B0))) (decide_eq_false (by omega))) fun _ => evt_is (evt_testM (evm_op (evm_op (evm_var rfl) evm_int (.inl (rd_ixT rfl))) (evm_lst (evms_cons evm_str (evms_cons evm_str evms_nil)) (by simp)) (.inl (rd_ninL rfl (by simp [Dat.flat]))))) (by decide +kernel)) rfl) rfl) (fun e => by cases e) (fun _ => ?_); apply ex_seqN))
local macro_rules | `(tactic| walk_at "kindsL") => `(tactic| (refine ex_ifs (b := false) (evt_is (evt_or (a := false) (b := false) (evt_is (evt_and (a := false) (b := false) (evt_is (evt_testM (evm_op (evm_cb (evms_cons (evm_var rfl) evms_nil) (.inl rc_lenT)) evm_int (.inl rd_B0))) (by simp)) fun e => by cases e) rfl) fun _ => evt_is (evt_testM (evm_op (evm_cb (evms_cons (evm_var rfl) evms_nil) (.inl rc_lenT)) evm_int (.inl rd_B0))) (by simp)) rfl) (fun e => by cases e) (fun _ => ?_); apply ex_seqN))
local macro_rules | `(tactic| walk_at "wholeL") => `(tactic| (refine ex_if (b := false) (evt_is (evt_and (a := false) (b := false) (evt_is (evt_testM (evm_op (evm_cb (evms_cons (evm_var rfl) evms_nil) (.inl rc_lenT)) evm_int (.inl rd_eq_int))) (by simp)) fun e => by cases e) rfl) (fun e => by cases e) (fun _ => ?_)))
theorem ok__law_whole (T : Tx K mg) : FnOk P w K mg base CX0 2 T.a__law_whole T.d__law_whole ["_law_found", "_law_shows"] (spF K (P__law_whole)) := by
  refine ok_def (rule_fun T.F__law_whole) sc__law_whole (fun ds r h => by cases h <;> rfl) fun cdv A outer s H E hr => ⟨_, (pss_cons (ps_if (pt_not (pt_val (pe_callB (call_isiK1 (K := K) rfl) (by rfl) T.n_isinstance (by decide +kernel) (pa_cons (pv 0) (pa_cons (pe_bltn (v := .ty "list") (u := .type "list") (by rfl) T.n_list (by decide +kernel) rfl) pa_nil))))) (pss_one (ps_ret pe_bl)) pss_nil)
      (pss_cons (ps_for PassesOwn.never rfl (pi_range1 (by rfl) T.n_range (pa_cons (pe_callB (call_lenK (K := K) rfl) (by rfl) T.n_len (by decide +kernel) (pa_cons (pv 0) pa_nil)) pa_nil)) (pg_name (i := 2) sc__law_whole.nd rfl (by first | exact Or.inl rfl | exact Or.inr rfl)) (pss_cons (ps_set (i := 3) sc__law_whole.nd rfl (by first | exact Or.inl rfl | exact Or.inr rfl) (pe_ix (ix_seqK (K := K) rfl) (pv 0) (pv 2) (fun _ _ => rfl)))
      (pss_cons (ps_if (PW.pt (pw_or (pt_not (pt_val (pe_callB (call_isiK1 (K := K) rfl) (by rfl) T.n_isinstance (by decide +kernel) (pa_cons (pv 3) (pa_cons (pe_bltn (v := .ty "tuple") (u := .type "tuple") (by rfl) T.n_tuple (by decide +kernel) rfl) pa_nil))))) (pw_or1 (pt_cmpR op_lt (pe_callB (call_lenK (K := K) rfl) (by rfl) T.n_len (by decide +kernel) (pa_cons (pv 3) pa_nil)) pe_int (nomark _))))) (pss_one (ps_ret pe_bl)) pss_nil)
      (pss_cons (ps_if (PW.pt (pw_and (pt_cmpR (op_eqK (K := K) rfl hr.units) (pe_callB (call_lenK (K := K) rfl) (by rfl) T.n_len (by decide +kernel) (pa_cons (pv 3) pa_nil)) pe_int (nomark _)) (pw_and1 (PW.pt (pw_or (pt_cmpR op_lt (pv 2) (pe_op op_sub (pe_callB (call_lenK (K := K) rfl) (by rfl) T.n_len (by decide +kernel) (pa_cons (pv 0) pa_nil)) pe_int) (nomark _)) (pw_or1 (pt_cmpR (op_ninK (K := K) rfl) (pe_ix (ix_seqK (K := K) rfl) (pv 3) pe_int (fun _ _ => rfl)) (pe_lst (pa_cons pe_str (pa_cons pe_str pa_nil))) (by rfl)))))))) (pss_one (ps_ret pe_bl)) pss_nil)
      (pss_cons (ps_if (PW.pt (pw_or (PW.pt (pw_and (pt_cmpR op_gt (pe_callB (call_lenK (K := K) rfl) (by rfl) T.n_len (by decide +kernel) (pa_cons (pv 3) pa_nil)) pe_int (nomark _)) (pw_and1 (pt_cmpR (op_ninK (K := K) rfl) (pe_ix (ix_seqK (K := K) rfl) (pv 3) pe_int (fun _ _ => rfl)) (pe_lst (pa_cons pe_str (pa_cons pe_str (pa_cons pe_str pa_nil)))) (by rfl))))) (pw_or1 (pt_cmpR op_gt (pe_callB (call_lenK (K := K) rfl) (by rfl) T.n_len (by decide +kernel) (pa_cons (pv 3) pa_nil)) pe_int (nomark _))))) (pss_one (ps_ret pe_bl)) pss_nil)
      (pss_one (ps_if (PW.pt (pw_and (pt_cmpR (op_eqK (K := K) rfl hr.units) (pe_callB (call_lenK (K := K) rfl) (by rfl) T.n_len (by decide +kernel) (pa_cons (pv 3) pa_nil)) pe_int (nomark _)) (pw_and (pt_cmpR (op_neK (K := K) rfl hr.units) (pe_ix (ix_seqK (K := K) rfl) (pv 3) pe_int (fun _ _ => rfl)) pe_str (nomark _)) (pw_and1 (PW.pt (pw_or (pt_not (pt_val (pe_callB (call_isiK1 (K := K) rfl) (by rfl) T.n_isinstance (by decide +kernel) (pa_cons (pe_ix (ix_seqK (K := K) rfl) (pv 3) pe_int (fun _ _ => rfl)) (pa_cons (pe_bltn (v := .ty "int") (u := .type "int") (by rfl) T.n_int (by decide +kernel) rfl) pa_nil))))) (pw_or1 (pt_val (pe_callB (call_isiK1 (K := K) rfl) (by rfl) T.n_isinstance (by decide +kernel) (pa_cons (pe_ix (ix_seqK (K := K) rfl) (pv 3) pe_int (fun _ _ => rfl)) (pa_cons (pe_bltn (v := .ty "bool") (u := .type "bool") (by rfl) T.n_bool (by decide +kernel) rfl) pa_nil))))))))))) (pss_one (ps_ret pe_bl)) pss_nil)))))))
      (pss_cons (ps_if (PW.pt (pw_and (pt_cmpR op_gt (pe_callB (call_lenK (K := K) rfl) (by rfl) T.n_len (by decide +kernel) (pa_cons (pv 0) pa_nil)) pe_int (nomark _)) (pw_and1 (pt_cmpR (op_eqK (K := K) rfl hr.units) (pe_callB (call_lenK (K := K) rfl) (by rfl) T.n_len (by decide +kernel) (pa_cons (pe_ix (ix_seqK (K := K) rfl) (pv 0) (pe_un un_neg pe_int) (fun _ _ => rfl)) pa_nil)) pe_int (nomark _))))) (pss_one (ps_ret (pe_cmpR op_le (pe_callB (call_lenK (K := K) rfl) (by rfl) T.n_len (by decide +kernel) (pa_cons (pv 0) pa_nil)) (pe_callB (call_max2 rfl) (by rfl) T.n_max (by decide +kernel) (pa_cons (pv 1) (pa_cons pe_int pa_nil))) (nomark _)))) pss_nil)
      (pss_one (ps_ret (pe_cmpR (op_eqK (K := K) rfl hr.units) (pe_callB (call_lenK (K := K) rfl) (by rfl) T.n_len (by decide +kernel) (pa_cons (pv 0) pa_nil)) (pv 1) (nomark _))))))), fun ds r h => ?_⟩
  have hu := hu_of hr
  try dsimp only [L2.Cx.nox, L2.Cx.wish, L2.cxOf]
  cases h with
  | @mk n vs t h hn =>
  have hlen := told_len h
  refine ex_ifs (b := false) (evt_is (evt_not (evt_testM (evm_cb (evms_cons (evm_var rfl) (evms_cons evm_ty evms_nil)) (.inl (rc_isTy rfl (by decide)))))) (by simp)) (fun e => by cases e) (fun _ => ?_)
  apply ex_seqN
  refine ex_for1 (j := 2) (ds := fromto 0 (vs.map told ++ t).length) (fun i ε => ∃ v w, ε = ⟨[.dat (.lst (vs.map told ++ t)), .dat (.int (n : Int)), v, w], []⟩) (evw_is (evw_rng1M (evms_cons (evm_cb (evms_cons (evm_var rfl) evms_nil) (.inl rc_lenK)) evms_nil) ⟨by omega, by omega⟩) (by rw [Int.toNat_natCast])) ⟨.no, .no, rfl⟩ ?_ ?_
  · rintro i x _ hx ⟨v, w, rfl⟩
    have hi : i < (vs.map told ++ t).length := by
      have := (List.getElem?_eq_some_iff.mp hx).1
      rwa [fromto_len] at this
    obtain rfl : x = .int (0 + (i : Int)) := by
      unfold fromto at hx
      rw [List.getElem?_map, List.getElem?_range hi] at hx
      cases hx
      rfl
    have hg := List.getElem?_eq_getElem hi
    have hr := row_of h hg
    have hat : atI (vs.map told ++ t) (0 + (i : Int)) = some (vs.map told ++ t)[i] := by rw [Int.zero_add]; exact atI_nat hg
    generalize (vs.map told ++ t)[i] = row at *
    refine ex_setM (evm_op (evm_var rfl) (evm_var rfl) (.inl (rd_ixL hat))) (by rfl) ?_
    cases hr with
    | num =>
      walk_at "isTup"
      walk_at "two"
      walk_at "kinds"
      walk_at "whole"
      apply ex_next
      exact ⟨_, _, rfl⟩
    | fn =>
      walk_at "isTup"
      walk_at "two"
      walk_at "kinds"
      walk_at "whole"
      apply ex_next
      exact ⟨_, _, rfl⟩
    | op =>
      walk_at "isTup"
      walk_at "two"
      walk_at "kinds"
      walk_at "wholeOp"
      apply ex_next
      exact ⟨_, _, rfl⟩
    | stuck =>
      walk_at "isTup"
      walk_at "last"
      walk_at "kindsL"
      walk_at "wholeL"
      apply ex_next
      exact ⟨_, _, rfl⟩
    | on =>
      walk_at "isTup"
      walk_at "last"
      walk_at "kindsL"
      walk_at "wholeL"
      apply ex_next
      exact ⟨_, _, rfl⟩
  rintro _ ⟨v, w, rfl⟩
  by_cases ht : t = []
  · have hv := h.all ht
    subst ht
    rw [List.append_nil]
    have le : (((vs.map told).length : Nat) : Int) = (n : Int) := by rw [List.length_map, hv]
    by_cases hn0 : vs = []
    · subst hn0
      refine ex_ifs (b := false) (evt_is (evt_and (a := false) (b := false) (evt_is (evt_testM (evm_op (evm_cb (evms_cons (evm_var rfl) evms_nil) (.inl rc_lenK)) evm_int (.inl rd_B0))) (by simp)) fun e => by cases e) rfl) (fun e => by cases e) (fun _ => ?_)
      apply ex_seqN
      refine ex_retM (evm_op (evm_cb (evms_cons (evm_var rfl) evms_nil) (.inl rc_lenK)) (evm_var rfl) (.inl rd_eq_int)) (by rfl) ?_
      rw [le]
      simp
      rfl
    · obtain ⟨ws, u, rfl⟩ : ∃ ws u, vs = ws ++ [u] := ⟨_, _, (List.dropLast_concat_getLast hn0).symm⟩
      have hat : atI ((ws ++ [u]).map told) (-1) = some (told u) := by rw [List.map_append]; exact atI_last
      have tl : ∃ a b, told u = .tup [a, b] := by cases u <;> exact ⟨_, _, rfl⟩
      obtain ⟨a, b, tl⟩ := tl
      rw [tl] at hat
      refine ex_ifs (b := false) (evt_is (evt_and (a := true) (b := false) (evt_is (evt_testM (evm_op (evm_cb (evms_cons (evm_var rfl) evms_nil) (.inl rc_lenK)) evm_int (.inl rd_B0))) (by simp)) fun _ => evt_is (evt_testM (evm_op (evm_cb (evms_cons (evm_op (evm_var rfl) (evm_neg evm_int) (.inl (rd_ixL hat))) evms_nil) (.inl rc_lenT)) evm_int (.inl rd_eq_int))) (by simp)) rfl) (fun e => by cases e) (fun _ => ?_)
      apply ex_seqN
      refine ex_retM (evm_op (evm_cb (evms_cons (evm_var rfl) evms_nil) (.inl rc_lenK)) (evm_var rfl) (.inl rd_eq_int)) (by rfl) ?_
      rw [le]
      simp
      rfl
  · have hv := h.few ht
    obtain ⟨s, rfl⟩ : ∃ s : Str, t = [.tup [.str s]] := by
      have := h.e
      cases this with
      | no => exact absurd rfl ht
      | stuck => exact ⟨_, rfl⟩
      | on => exact ⟨_, rfl⟩
    have hat : atI (vs.map told ++ [.tup [.str s]]) (-1) = some (.tup [.str s]) := atI_last
    refine ex_ifs (b := true) (evt_is (evt_and (a := true) (b := true) (evt_is (evt_testM (evm_op (evm_cb (evms_cons (evm_var rfl) evms_nil) (.inl rc_lenK)) evm_int (.inl rd_B0))) (by simp)) fun _ => evt_is (evt_testM (evm_op (evm_cb (evms_cons (evm_op (evm_var rfl) (evm_neg evm_int) (.inl (rd_ixL hat))) evms_nil) (.inl rc_lenT)) evm_int (.inl rd_eq_int))) (by simp)) rfl) (fun _ => ?_) (fun e => by cases e)
    apply ex_left
    refine ex_retM (evm_is (b := .bl true) (evm_op (evm_cb (evms_cons (evm_var rfl) evms_nil) (.inl rc_lenK)) (evm_cb (evms_cons (evm_var rfl) (evms_cons evm_int evms_nil)) (.inl rc_max2)) (.inl rd_B0)) ?_) (by rfl) rfl
    have : (((vs.map told ++ [Dat.tup [.str s]]).length : Nat) : Int) ≤ (if (1 : Int) > (n : Int) then 1 else (n : Int)) := by
      rw [List.length_append, List.length_map, List.length_singleton]
      split <;> omega
    rw [decide_eq_true this]
inductive P_law : List Dat → Res → Prop
  | mk {xs : List Int} (h : xs.length ≤ 63) : P_law [.lst (xs.map Dat.int)] (.dat (.bl true))
def isShw : Item → Bool
  | .shw _ => true
  | .dfn _ _ _ => false
theorem shw_only (fs : List Def) (shs : List Core) : (((fs.map Def.item ++ shs.map Item.shw).filter isShw).map Item.dat).length = shs.length := by
  have h1 : (fs.map Def.item).filter isShw = [] := by
    rw [List.filter_eq_nil_iff]
    intro a ha
    obtain ⟨f, _, rfl⟩ := List.mem_map.mp ha
    simp [Def.item, isShw]
  have h2 : (shs.map Item.shw).filter isShw = shs.map Item.shw := by
    rw [List.filter_eq_self]
    intro a ha
    obtain ⟨f, _, rfl⟩ := List.mem_map.mp ha
    rfl
  rw [List.filter_append, h1, h2]
  simp
theorem item_pl {fs : List Def} {shs : List Core} (hf : ∀ f ∈ fs, Good f.c ∧ f.x = "f") (hs : ∀ c ∈ shs, Good c) : (Dat.lst ((fs.map Def.item ++ shs.map Item.shw).map Item.dat)).plain 28 = true := by
  have g1 : PyData.strOk "def" = true := by decide +kernel
  have g2 : PyData.strOk "show" = true := by decide +kernel
  have g3 : PyData.strOk "f" = true := by decide +kernel
  refine lst_pl fun d hd => ?_
  obtain ⟨i, hi, rfl⟩ := List.mem_map.mp hd
  rcases List.mem_append.mp hi with hi | hi
  · obtain ⟨f, hf', rfl⟩ := List.mem_map.mp hi
    obtain ⟨a, b⟩ := hf f hf'
    show (Dat.tup [.str "def", .int f.p, .str f.x, f.c.dat]).plain 27 = true
    refine tup_pl fun d hd => ?_
    simp only [List.mem_cons, List.not_mem_nil, or_false] at hd
    rcases hd with rfl | rfl | rfl | rfl
    · exact str_pl g1
    · exact int_pl
    · rw [b]; exact str_pl g3
    · exact a.pl
  · obtain ⟨c, hc, rfl⟩ := List.mem_map.mp hi
    show (Dat.tup [.str "show", c.dat]).plain 27 = true
    refine tup_pl fun d hd => ?_
    simp only [List.mem_cons, List.not_mem_nil, or_false] at hd
    rcases hd with rfl | rfl
    · exact str_pl g2
    · exact (hs c hc).pl
theorem on_pl : onD.plain 3 = true := by decide +kernel
theorem stuck_pl : stuckD.plain 3 = true := by decide +kernel
theorem rows_pl {m n : Nat} {vs : List Val} {t : List Dat} (h : Told m n vs t) : ∀ d ∈ vs.map told ++ t, d.plain 3 = true := fun d hd => by
  rcases List.mem_append.mp hd with hd | hd
  · obtain ⟨v, hv, rfl⟩ := List.mem_map.mp hd
    exact (row_good (r := .val v) (h.good v hv)).1
  · have := h.e
    cases this with
    | no => cases hd
    | stuck => rw [List.mem_singleton.mp hd]; exact stuck_pl
    | on => rw [List.mem_singleton.mp hd]; exact on_pl
theorem told_on (v : Val) : (told v).eqv onD = false := by
  cases v <;> simp [told, onD, Dat.eqv, toPy, toPys, PyData.eqv, PyData.eqvAll]
theorem last_row {m n : Nat} {vs : List Val} {t : List Dat} (h : Told m n vs t) (ht : t ≠ [onD]) (hne : vs.map told ++ t ≠ []) : ∃ ws d, vs.map told ++ t = ws ++ [d] ∧ d.eqv onD = false := by
  have := h.e
  cases this with
  | no =>
    rw [List.append_nil] at hne ⊢
    have hv : vs ≠ [] := fun z => hne (by rw [z]; rfl)
    obtain ⟨us, u, rfl⟩ : ∃ us u, vs = us ++ [u] := ⟨_, _, (List.dropLast_concat_getLast hv).symm⟩
    exact ⟨us.map told, told u, by rw [List.map_append]; rfl, told_on u⟩
  | stuck => exact ⟨_, _, rfl, by decide +kernel⟩
  | on => exact absurd rfl ht
theorem snoc_nil {ws : List Dat} {d : Dat} : ((Dat.lst (ws ++ [d])).eqv (.lst [])) = false := by
  cases ws <;> rfl
theorem ok_law (T : Tx K mg) : FnOk P w K mg base CX0 16 T.a_law T.d_law ["_law_script"] (spF K (P_law)) := by
  refine ok_def (rule_fun T.F_law) sc_law (fun ds r h => by cases h <;> rfl) fun cdv A outer s H E hr => ⟨_, (pss_cons (ps_set (i := 1) sc_law.nd rfl (by first | exact Or.inl rfl | exact Or.inr rfl) (pe_call (ok__law_cell_at T) (hr.mono (by first | decide | omega)) (by rfl) T.g__law_cell_at T.F__law_cell_at.kp T.b__law_cell_at .nil pass0 (pa_cons (pv 0) (pa_cons pe_int pa_nil))))
      (pss_cons (ps_set (i := 2) sc_law.nd rfl (by first | exact Or.inl rfl | exact Or.inr rfl) (pe_call (ok__law_draws T) (hr.mono (by first | decide | omega)) (by rfl) T.g__law_draws T.F__law_draws.kp T.b__law_draws .nil pass0 (pa_cons (pv 0) (pa_cons pe_int (pa_cons pe_int (pa_cons (pe_op op_pow pe_int pe_int) pa_nil))))))
      (pss_cons (ps_set (i := 3) sc_law.nd rfl (by first | exact Or.inl rfl | exact Or.inr rfl) (pe_call (ok__law_items T) (hr.mono (by first | decide | omega)) (by rfl) T.g__law_items T.F__law_items.kp T.b__law_items .nil pass0 (pa_cons (pv 2) (pa_cons (pv 1) (pa_cons (pe_lst (pa_cons (pe_op op_mod (pe_call (ok__law_cell_at T) (hr.mono (by first | decide | omega)) (by rfl) T.g__law_cell_at T.F__law_cell_at.kp T.b__law_cell_at .nil pass0 (pa_cons (pv 0) (pa_cons pe_int pa_nil))) (pe_op op_pow pe_int pe_int)) pa_nil)) pa_nil)))))
      (pss_cons (ps_set (i := 4) sc_law.nd rfl (by first | exact Or.inl rfl | exact Or.inr rfl) (pe_callB (call_lenK (K := K) rfl) (by rfl) T.n_len (by decide +kernel) (pa_cons (pe_lc (own := [("_law_item", 10)]) rfl sc_law.nd (pi_listK (K := K) rfl (pv 3)) (blkOk_by (own := [("_law_item", 10)]) (N := ["_law_script", "_law_head", "_law_cells", "_law_items_here", "_law_shows", "_law_fuel", "_law_more", "_law_handed", "_law_found", "_law_other", "_law_item"]) (sc := defScope S_law) (by decide +kernel)) (fun _ _ _ _ _ => (pg_name (i := 10) sc_law.nd rfl (by first | exact Or.inl rfl | exact Or.inr rfl))) (fun _ _ _ _ _ => pts_one (pt_cmpR (op_eqK (K := K) rfl hr.units) (pe_ix (ix_seqK (K := K) rfl) (pv 10) pe_int (fun _ _ => rfl)) pe_str (nomark _))) (fun _ _ _ _ _ => (pv 10))) pa_nil)))
      (pss_cons (ps_set (i := 5) sc_law.nd rfl (by first | exact Or.inl rfl | exact Or.inr rfl) (pe_op op_mod (pe_op op_fdivW (pv 1) pe_int) pe_int))
      (pss_cons (ps_set (i := 6) sc_law.nd rfl (by first | exact Or.inl rfl | exact Or.inr rfl) (pe_op (op_addK (K := K) rfl) (pv 5) (pe_op op_mod (pe_op op_fdivW (pv 1) pe_int) pe_int)))
      (pss_cons (ps_set (i := 7) sc_law.nd rfl (by first | exact Or.inl rfl | exact Or.inr rfl) (pe_callTy (call_listK (K := K) rfl) (by rfl) T.n_list (by decide +kernel) (pa_cons (pv 3) pa_nil)))
      (pss_cons (ps_set (i := 8) sc_law.nd rfl (by first | exact Or.inl rfl | exact Or.inr rfl) (pe_call (ok_run T) (hr.mono (by first | decide | omega)) (by rfl) T.g_run T.F_run.kp T.b_run .nil pass0 (pa_cons (pv 7) (pa_cons (pv 5) pa_nil))))
      (pss_cons (ps_set (i := 9) sc_law.nd rfl (by first | exact Or.inl rfl | exact Or.inr rfl) (pe_call (ok_run T) (hr.mono (by first | decide | omega)) (by rfl) T.g_run T.F_run.kp T.b_run .nil pass0 (pa_cons (pv 7) (pa_cons (pv 6) pa_nil))))
      (pss_cons (ps_if (PW.pt (pw_or (pt_not (pt_val (pe_call (ok__law_whole T) (hr.mono (by first | decide | omega)) (by rfl) T.g__law_whole T.F__law_whole.kp T.b__law_whole .nil pass0 (pa_cons (pv 8) (pa_cons (pv 4) pa_nil))))) (pw_or (pt_not (pt_val (pe_call (ok__law_whole T) (hr.mono (by first | decide | omega)) (by rfl) T.g__law_whole T.F__law_whole.kp T.b__law_whole .nil pass0 (pa_cons (pv 9) (pa_cons (pv 4) pa_nil))))) (pw_or1 (pt_cmpR (op_neK (K := K) rfl hr.units) (pv 7) (pv 3) (nomark _)))))) (pss_one (ps_ret pe_bl)) pss_nil)
      (pss_cons (ps_if (pt_cmpR (op_neK (K := K) rfl hr.units) (pe_call (ok_run T) (hr.mono (by first | decide | omega)) (by rfl) T.g_run T.F_run.kp T.b_run .nil pass0 (pa_cons (pv 7) (pa_cons (pv 5) pa_nil))) (pv 8) (nomark _)) (pss_one (ps_ret pe_bl)) pss_nil)
      (pss_cons (ps_if (PW.pt (pw_or (pt_cmpR (op_eqK (K := K) rfl hr.units) (pv 8) (pe_lst pa_nil) (nomark _)) (pw_or1 (pt_cmpR (op_neK (K := K) rfl hr.units) (pe_ix (ix_seqK (K := K) rfl) (pv 8) (pe_un un_neg pe_int) (fun _ _ => rfl)) (pe_tup (pa_cons pe_str pa_nil)) (nomark _))))) (pss_one (ps_ret (pe_cmpR (op_eqK (K := K) rfl hr.units) (pv 8) (pv 9) (nomark _)))) pss_nil)
      (pss_one (ps_ret (pe_cmpR (op_eqK (K := K) rfl hr.units) (pe_slice (sl_listK (K := K) rfl) (pv 9) po_none (po_some (pe_op op_sub (pe_callB (call_lenK (K := K) rfl) (by rfl) T.n_len (by decide +kernel) (pa_cons (pv 8) pa_nil)) pe_int))) (pe_slice (sl_listK (K := K) rfl) (pv 8) po_none (po_some (pe_un un_neg pe_int))) (nomark _)))))))))))))))), fun ds r h => ?_⟩
  have hu := hu_of hr
  try dsimp only [L2.Cx.nox, L2.Cx.wish, L2.cxOf]
  cases h with
  | @mk xs hl =>
  refine ex_setM (evm_call (evms_cons (evm_var rfl) (evms_cons evm_int evms_nil)) (.dat (.mk (by decide)))) (by rfl) ?_
  generalize cl xs (0 : Int).toNat = hd
  apply ex_setN
  · exact evn_callM (evms_cons (evm_var rfl) (evms_cons evm_int (evms_cons evm_int (evms_cons (evm_op evm_int evm_int (.inl (rd_I ⟨by decide, by decide⟩))) evms_nil)))) (by rfl) (.mk (by decide +kernel))
  refine ex_stand (i := 2) rfl ?_
  have hdl := draw_len xs (10 ^ (21 : Int).toNat)
  generalize drawC xs (10 ^ (21 : Int).toNat) = cells at *
  refine ex_setP (ω1 := [.lst [.dat (.int (cl xs (1 : Int).toNat % 10 ^ (18 : Int).toNat))]]) (xs := [.dat (.lst (cells.map Dat.int)), .dat (.int hd), .loc 0]) (eves_cons (eve_m (evm_var rfl) rfl) (eves_cons (eve_m (evm_var rfl) rfl) (eves_cons (eve_new (evn_lstM (evms_cons (evm_op (evm_call (evms_cons (evm_var rfl) (evms_cons evm_int evms_nil)) (.dat (.mk (by decide)))) (evm_op evm_int evm_int (.inl (rd_I ⟨by decide, by decide⟩))) (.inl (rd_I (by decide +kernel)))) evms_nil) (by rfl) (by simp))) eves_nil))) (.mk hdl) ?_
  rintro _ ω ⟨fs, shs, rfl, hf, hs, hfl, hsl⟩
  refine ex_setM (d := .int (shs.length : Int)) (evm_is (evm_cb (evms_cons (EvN.toM (evn_lcT (fs.map Def.item ++ shs.map Item.shw) Item.dat isShw Item.dat (evw_listM (evm_var rfl) rfl) (fun x hx => ⟨?_, fun _ => EvM.toD (evm_var rfl) rfl⟩) (by rw [List.length_append, List.length_map, List.length_map]; omega))) evms_nil) (.inl rc_lenK)) (by rw [shw_only])) (by rfl) ?_
  · cases x with
    | dfn p x c => exact evt_is (evt_testM (evm_op (evm_op (evm_is (b := .tup [.str "def", .int p, .str x, c.dat]) (evm_var rfl) rfl) evm_int (.inl (rd_ixT rfl))) evm_str (.inl rd_eq_str))) (by show _ = _; simp only [isShw]; decide +kernel)
    | shw c => exact evt_is (evt_testM (evm_op (evm_op (evm_is (b := .tup [.str "show", c.dat]) (evm_var rfl) rfl) evm_int (.inl (rd_ixT rfl))) evm_str (.inl rd_eq_str))) (by show _ = _; simp only [isShw]; decide +kernel)
  obtain ⟨k, hk, hk2⟩ : ∃ k : Nat, hd / 9 % 31 = (k : Int) ∧ k ≤ 30 := by
    have a1 := Int.emod_nonneg (hd / 9) (show (31 : Int) ≠ 0 by decide)
    have a2 := Int.emod_lt_of_pos (hd / 9) (show (0 : Int) < 31 by decide)
    exact ⟨(hd / 9 % 31).toNat, by omega, by omega⟩
  obtain ⟨e, he, he2⟩ : ∃ k : Nat, hd / 279 % 31 = (k : Int) ∧ k ≤ 30 := by
    have a1 := Int.emod_nonneg (hd / 279) (show (31 : Int) ≠ 0 by decide)
    have a2 := Int.emod_lt_of_pos (hd / 279) (show (0 : Int) < 31 by decide)
    exact ⟨(hd / 279 % 31).toNat, by omega, by omega⟩
  refine ex_setM (d := .int (k : Int)) (evm_is (evm_op (evm_op (evm_var rfl) evm_int (.inl (rd_fdiv (by decide +kernel) (by decide +kernel)))) evm_int (.inl (rd_I (by decide)))) (by rw [hk])) (by rfl) ?_
  refine ex_setM (d := .int ((k + e : Nat) : Int)) (evm_is (evm_op (evm_var rfl) (evm_op (evm_op (evm_var rfl) evm_int (.inl (rd_fdiv (by decide +kernel) (by decide +kernel)))) evm_int (.inl (rd_I (by decide)))) (.inl rd_add_int)) (by rw [he, Int.natCast_add])) (by rfl) ?_
  apply ex_setN
  · exact evn_cbM (evms_cons (evm_var rfl) evms_nil) (by rfl) rcn_list
  refine ex_stand (i := 7) rfl ?_
  obtain ⟨vs, t, vs2, t2, a1, a2, a3, a4, a5⟩ := items_run (B := 500) (by omega) fs shs [] [] k e onil gnil (by rw [List.length_nil]; omega) (by omega) (fun f hf' => (hf f hf').1.sz) (fun c hc => (hs c hc).sz)
  have il : (fs.map Def.item ++ shs.map Item.shw).length < 16000000 := by rw [List.length_append, List.length_map, List.length_map]; omega
  apply ex_setN
  · exact evn_callM (evms_cons (evm_var rfl) (evms_cons (evm_var rfl) evms_nil)) (by rfl) (.mk a1 il)
  refine ex_stand (i := 8) rfl ?_
  apply ex_setN
  · exact evn_callM (evms_cons (evm_var rfl) (evms_cons (evm_var rfl) evms_nil)) (by rfl) (.mk a2 il)
  refine ex_stand (i := 9) rfl ?_
  have pi := item_pl hf hs
  have pf : (Dat.lst (vs.map told ++ t)).plain 4 = true := lst_pl (rows_pl a3)
  refine ex_ifs (b := false) (evt_is (evt_or (a := false) (b := false) (evt_is (evt_not (evt_testM (evm_call (evms_cons (evm_var rfl) (evms_cons (evm_var rfl) evms_nil)) (.dat (.mk a3 (by omega)))))) rfl) fun _ => evt_is (evt_or (a := false) (b := false) (evt_is (evt_not (evt_testM (evm_call (evms_cons (evm_var rfl) (evms_cons (evm_var rfl) evms_nil)) (.dat (.mk a4 (by omega)))))) rfl) fun _ => evt_is (evt_testM (evm_op (evm_var rfl) (evm_var rfl) (.inl (rd_ne 28 28 pi pi)))) (by rw [eqv_refl pi]; rfl)) rfl) rfl) (fun e => by cases e) (fun _ => ?_)
  apply ex_seqN
  refine ex_ifs (b := false) (evt_is (evt_testM (evm_op (EvN.toM (evn_callM (evms_cons (evm_var rfl) (evms_cons (evm_var rfl) evms_nil)) (by rfl) (.mk a1 il))) (evm_var rfl) (.inl (rd_ne 4 4 pf pf)))) (by rw [eqv_refl pf]; rfl)) (fun e => by cases e) (fun _ => ?_)
  apply ex_seqN
  rcases a5 with ⟨h1, rfl, rfl⟩ | ⟨rfl, ws, rfl⟩
  · by_cases hne : vs2.map told ++ t2 = []
    · rw [hne] at pf ⊢
      refine ex_ifs (b := true) (evt_is (evt_or (a := true) (b := true) (evt_is (evt_testM (evm_op (evm_var rfl) (evm_lst evms_nil (by simp)) (.inl (rd_eq 4 1 pf (by rfl))))) (by rfl)) fun e => by cases e) rfl) (fun _ => ?_) (fun e => by cases e)
      apply ex_left
      exact ex_retM (evm_is (b := .bl true) (evm_op (evm_var rfl) (evm_var rfl) (.inl (rd_eq 4 4 pf pf))) (by rw [eqv_refl pf])) (by rfl) rfl
    · obtain ⟨us, d, hus, hd1⟩ := last_row a3 h1 hne
      have pd : d.plain 3 = true := rows_pl a3 d (by rw [hus]; simp)
      rw [hus] at pf ⊢
      refine ex_ifs (b := true) (evt_is (evt_or (a := false) (b := true) (evt_is (evt_testM (evm_op (evm_var rfl) (evm_lst evms_nil (by simp)) (.inl (rd_eq 4 1 pf (by rfl))))) snoc_nil) fun _ => evt_is (evt_testM (evm_op (evm_op (evm_var rfl) (evm_neg evm_int) (.inl (rd_ixL atI_last))) (evm_tup (evms_cons evm_str evms_nil) (by simp)) (.inl (rd_ne 3 3 pd on_pl)))) (by show (!d.eqv onD) = true; rw [hd1]; rfl)) rfl) (fun _ => ?_) (fun e => by cases e)
      apply ex_left
      exact ex_retM (evm_is (b := .bl true) (evm_op (evm_var rfl) (evm_var rfl) (.inl (rd_eq 4 4 pf pf))) (by rw [eqv_refl pf])) (by rfl) rfl
  · refine ex_ifs (b := false) (evt_is (evt_or (a := false) (b := false) (evt_is (evt_testM (evm_op (evm_var rfl) (evm_lst evms_nil (by simp)) (.inl (rd_eq 4 1 pf (by rfl))))) snoc_nil) fun _ => evt_is (evt_testM (evm_op (evm_op (evm_var rfl) (evm_neg evm_int) (.inl (rd_ixL atI_last))) (evm_tup (evms_cons evm_str evms_nil) (by simp)) (.inl (rd_ne 3 3 on_pl on_pl)))) (by show (!onD.eqv onD) = false; rw [eqv_refl on_pl]; rfl)) rfl) (fun e => by cases e) (fun _ => ?_)
    apply ex_seqN
    have pv' : (Dat.lst (vs.map told)).plain 4 = true := lst_pl fun d hd => rows_pl a3 d (List.mem_append_left _ hd)
    have c1 : cutD ((vs ++ ws).map told ++ t2) none (some ((((vs.map told ++ [onD]).length : Nat) : Int) - 1)) = vs.map told := by
      have : (((vs.map told ++ [onD]).length : Nat) : Int) - 1 = ((vs.map told).length : Int) := by rw [List.length_append, List.length_singleton]; omega
      rw [this, cut_take, List.map_append, List.append_assoc, List.take_left']
      rfl
    exact ex_retM (evm_is (b := .bl true) (evm_op (evm_is (b := .lst (vs.map told)) (EvN.toM (evn_slM (evm_var rfl) rfl evo_none (evo_someM (evm_op (evm_cb (evms_cons (evm_var rfl) evms_nil) (.inl rc_lenK)) evm_int (.inl rd_I0))))) (by rw [c1])) (evm_is (b := .lst (vs.map told)) (EvN.toM (evn_slM (evm_var rfl) rfl evo_none (evo_someM (evm_neg evm_int)))) (by rw [cut_last])) (.inl (rd_eq 4 4 pv' pv'))) (by rw [eqv_refl pv'])) (by rfl) rfl
theorem start_law : ∀ (w : World) (H : Hp) (a : Addr) (ns : List Int), ns.length ≤ 63 → (∀ z ∈ ns, Builtin.Int.intBits z ≤ 1048576) → Only H → SqL K H a (ns.map V.int) → spF K P_law [.ref a] H (fun v _ => v = .bl true) fun _ _ _ => False := fun w H a ns hl _ _ hS =>
  ⟨H, _, _, .refl _, .one (.lst hS .ofInts), .mk hl, fun v G' H' hr => by
    cases hr.2
    rfl⟩
theorem all_mk {l : PySem.W.OpenLaw} {w : World} {K : PySem.W.Frag} {h : Heap} {mg : Str → Option Value} {fa : Addr} (X : K.In h) (G : h.Ns mainGlobals mg) (hfa : mg "law" = some (.ref fa))
    {C_Machine : Addr}
    {od0 an0 : Option Addr} {sl0 : Array (Option Value)} {oc0 kV0 dc0 pm0 cd0 ct0 : Value} {f0 : Addr}
    {od1 an1 : Option Addr} {sl1 : Array (Option Value)} {oc1 kV1 dc1 pm1 cd1 ct1 : Value} {f1 : Addr}
    {od2 an2 : Option Addr} {sl2 : Array (Option Value)} {oc2 kV2 dc2 pm2 cd2 ct2 : Value} {f2 : Addr}
    {od3 an3 : Option Addr} {sl3 : Array (Option Value)} {oc3 kV3 dc3 pm3 cd3 ct3 : Value} {f3 : Addr}
    {od4 an4 : Option Addr} {sl4 : Array (Option Value)} {oc4 kV4 dc4 pm4 cd4 ct4 : Value} {f4 : Addr}
    {od5 an5 : Option Addr} {sl5 : Array (Option Value)} {oc5 kV5 dc5 pm5 cd5 ct5 : Value} {f5 : Addr}
    {od6 an6 : Option Addr} {sl6 : Array (Option Value)} {oc6 kV6 dc6 pm6 cd6 ct6 : Value} {f6 : Addr}
    {od7 an7 : Option Addr} {sl7 : Array (Option Value)} {oc7 kV7 dc7 pm7 cd7 ct7 : Value} {f7 : Addr}
    {od8 an8 : Option Addr} {sl8 : Array (Option Value)} {oc8 kV8 dc8 pm8 cd8 ct8 : Value} {f8 : Addr}
    {od9 an9 : Option Addr} {sl9 : Array (Option Value)} {oc9 kV9 dc9 pm9 cd9 ct9 : Value} {f9 : Addr}
    {od10 an10 : Option Addr} {sl10 : Array (Option Value)} {oc10 kV10 dc10 pm10 cd10 ct10 : Value} {f10 : Addr}
    {dt10 : Addr} {doc10 : Value} {dod10 : Option Addr} {dn10 : Nat} {dsl10 : Array (Option Value)} {tk10_0 : Tok}
    {od11 an11 : Option Addr} {sl11 : Array (Option Value)} {oc11 kV11 dc11 pm11 cd11 ct11 : Value} {f11 : Addr}
    {od12 an12 : Option Addr} {sl12 : Array (Option Value)} {oc12 kV12 dc12 pm12 cd12 ct12 : Value} {f12 : Addr}
    {od13 an13 : Option Addr} {sl13 : Array (Option Value)} {oc13 kV13 dc13 pm13 cd13 ct13 : Value} {f13 : Addr}
    {od14 an14 : Option Addr} {sl14 : Array (Option Value)} {oc14 kV14 dc14 pm14 cd14 ct14 : Value} {f14 : Addr}
    {od15 an15 : Option Addr} {sl15 : Array (Option Value)} {oc15 kV15 dc15 pm15 cd15 ct15 : Value} {f15 : Addr}
    {od16 an16 : Option Addr} {sl16 : Array (Option Value)} {oc16 kV16 dc16 pm16 cd16 ct16 : Value} {f16 : Addr}
    {od17 an17 : Option Addr} {sl17 : Array (Option Value)} {oc17 kV17 dc17 pm17 cd17 ct17 : Value} {f17 : Addr}
    {od18 an18 : Option Addr} {sl18 : Array (Option Value)} {oc18 kV18 dc18 pm18 cd18 ct18 : Value} {f18 : Addr}
    {od19 an19 : Option Addr} {sl19 : Array (Option Value)} {oc19 kV19 dc19 pm19 cd19 ct19 : Value} {f19 : Addr}
    {od20 an20 : Option Addr} {sl20 : Array (Option Value)} {oc20 kV20 dc20 pm20 cd20 ct20 : Value} {f20 : Addr}
    {od21 an21 : Option Addr} {sl21 : Array (Option Value)} {oc21 kV21 dc21 pm21 cd21 ct21 : Value} {f21 : Addr}
    {od22 an22 : Option Addr} {sl22 : Array (Option Value)} {oc22 kV22 dc22 pm22 cd22 ct22 : Value} {f22 : Addr}
    (aC_Machine : PySem.W.nsIn K mainGlobals "Machine" = some (some (.ref C_Machine)))
    (a0 : PySem.W.findIn K (.ref C_Machine) "__init__" = some (some (.ref f0)))
    (i0 : PySem.W.isFn K (.ref f0) = true)
    (l0 : K.lookup f0 = some ⟨oc0, od0, .func (PySem.W.fnOf "__init__" "Machine.__init__" (defArgs S_Machine___init__) (defBody S_Machine___init__) (defScope S_Machine___init__) .none kV0 dc0 pm0 an0 cd0 ct0), sl0⟩) (c0 : PySem.W.codeIn K cd0 "Machine.__init__" = true) (k0 : PySem.W.keepIn K (.ref f0) = true)
    (a1 : PySem.W.findIn K (.ref C_Machine) "come" = some (some (.ref f1)))
    (i1 : PySem.W.isFn K (.ref f1) = true)
    (l1 : K.lookup f1 = some ⟨oc1, od1, .func (PySem.W.fnOf "come" "Machine.come" (defArgs S_Machine_come) (defBody S_Machine_come) (defScope S_Machine_come) .none kV1 dc1 pm1 an1 cd1 ct1), sl1⟩) (c1 : PySem.W.codeIn K cd1 "Machine.come" = true) (k1 : PySem.W.keepIn K (.ref f1) = true)
    (a2 : PySem.W.findIn K (.ref C_Machine) "operation" = some (some (.ref f2)))
    (i2 : PySem.W.isFn K (.ref f2) = true)
    (l2 : K.lookup f2 = some ⟨oc2, od2, .func (PySem.W.fnOf "operation" "Machine.operation" (defArgs S_Machine_operation) (defBody S_Machine_operation) (defScope S_Machine_operation) .none kV2 dc2 pm2 an2 cd2 ct2), sl2⟩) (c2 : PySem.W.codeIn K cd2 "Machine.operation" = true) (k2 : PySem.W.keepIn K (.ref f2) = true)
    (a3 : PySem.W.findIn K (.ref C_Machine) "look" = some (some (.ref f3)))
    (i3 : PySem.W.isFn K (.ref f3) = true)
    (l3 : K.lookup f3 = some ⟨oc3, od3, .func (PySem.W.fnOf "look" "Machine.look" (defArgs S_Machine_look) (defBody S_Machine_look) (defScope S_Machine_look) .none kV3 dc3 pm3 an3 cd3 ct3), sl3⟩) (c3 : PySem.W.codeIn K cd3 "Machine.look" = true) (k3 : PySem.W.keepIn K (.ref f3) = true)
    (a4 : PySem.W.findIn K (.ref C_Machine) "choose" = some (some (.ref f4)))
    (i4 : PySem.W.isFn K (.ref f4) = true)
    (l4 : K.lookup f4 = some ⟨oc4, od4, .func (PySem.W.fnOf "choose" "Machine.choose" (defArgs S_Machine_choose) (defBody S_Machine_choose) (defScope S_Machine_choose) .none kV4 dc4 pm4 an4 cd4 ct4), sl4⟩) (c4 : PySem.W.codeIn K cd4 "Machine.choose" = true) (k4 : PySem.W.keepIn K (.ref f4) = true)
    (a5 : PySem.W.findIn K (.ref C_Machine) "call" = some (some (.ref f5)))
    (i5 : PySem.W.isFn K (.ref f5) = true)
    (l5 : K.lookup f5 = some ⟨oc5, od5, .func (PySem.W.fnOf "call" "Machine.call" (defArgs S_Machine_call) (defBody S_Machine_call) (defScope S_Machine_call) .none kV5 dc5 pm5 an5 cd5 ct5), sl5⟩) (c5 : PySem.W.codeIn K cd5 "Machine.call" = true) (k5 : PySem.W.keepIn K (.ref f5) = true)
    (a6 : PySem.W.findIn K (.ref C_Machine) "enter" = some (some (.ref f6)))
    (i6 : PySem.W.isFn K (.ref f6) = true)
    (l6 : K.lookup f6 = some ⟨oc6, od6, .func (PySem.W.fnOf "enter" "Machine.enter" (defArgs S_Machine_enter) (defBody S_Machine_enter) (defScope S_Machine_enter) .none kV6 dc6 pm6 an6 cd6 ct6), sl6⟩) (c6 : PySem.W.codeIn K cd6 "Machine.enter" = true) (k6 : PySem.W.keepIn K (.ref f6) = true)
    (a7 : PySem.W.nsIn K mainGlobals "reckoned" = some (some (.ref f7)))
    (l7 : K.lookup f7 = some ⟨oc7, od7, .func (PySem.W.fnOf "reckoned" "reckoned" (defArgs S_reckoned) (defBody S_reckoned) (defScope S_reckoned) .none kV7 dc7 pm7 an7 cd7 ct7), sl7⟩) (c7 : PySem.W.codeIn K cd7 "reckoned" = true) (k7 : PySem.W.keepIn K (.ref f7) = true)
    (a8 : PySem.W.nsIn K mainGlobals "value_of" = some (some (.ref f8)))
    (l8 : K.lookup f8 = some ⟨oc8, od8, .func (PySem.W.fnOf "value_of" "value_of" (defArgs S_value_of) (defBody S_value_of) (defScope S_value_of) .none kV8 dc8 pm8 an8 cd8 ct8), sl8⟩) (c8 : PySem.W.codeIn K cd8 "value_of" = true) (k8 : PySem.W.keepIn K (.ref f8) = true)
    (a9 : PySem.W.nsIn K mainGlobals "answer" = some (some (.ref f9)))
    (l9 : K.lookup f9 = some ⟨oc9, od9, .func (PySem.W.fnOf "answer" "answer" (defArgs S_answer) (defBody S_answer) (defScope S_answer) .none kV9 dc9 pm9 an9 cd9 ct9), sl9⟩) (c9 : PySem.W.codeIn K cd9 "answer" = true) (k9 : PySem.W.keepIn K (.ref f9) = true)
    (a10 : PySem.W.nsIn K mainGlobals "run" = some (some (.ref f10)))
    (l10 : K.lookup f10 = some ⟨oc10, od10, .func (PySem.W.fnOf "run" "run" (defArgs S_run) (defBody S_run) (defScope S_run) (.ref dt10) kV10 dc10 pm10 an10 cd10 ct10), sl10⟩) (c10 : PySem.W.codeIn K cd10 "run" = true) (k10 : PySem.W.keepIn K (.ref f10) = true)
    (dl10 : K.lookup dt10 = some ⟨doc10, dod10, .seq (List.toArray [.int 200 tk10_0]) dn10, dsl10⟩)
    (a11 : PySem.W.nsIn K mainGlobals "_law_cell_at" = some (some (.ref f11)))
    (l11 : K.lookup f11 = some ⟨oc11, od11, .func (PySem.W.fnOf "_law_cell_at" "_law_cell_at" (defArgs S__law_cell_at) (defBody S__law_cell_at) (defScope S__law_cell_at) .none kV11 dc11 pm11 an11 cd11 ct11), sl11⟩) (c11 : PySem.W.codeIn K cd11 "_law_cell_at" = true) (k11 : PySem.W.keepIn K (.ref f11) = true)
    (a12 : PySem.W.nsIn K mainGlobals "_law_draws" = some (some (.ref f12)))
    (l12 : K.lookup f12 = some ⟨oc12, od12, .func (PySem.W.fnOf "_law_draws" "_law_draws" (defArgs S__law_draws) (defBody S__law_draws) (defScope S__law_draws) .none kV12 dc12 pm12 an12 cd12 ct12), sl12⟩) (c12 : PySem.W.codeIn K cd12 "_law_draws" = true) (k12 : PySem.W.keepIn K (.ref f12) = true)
    (a13 : PySem.W.nsIn K mainGlobals "_law_next" = some (some (.ref f13)))
    (l13 : K.lookup f13 = some ⟨oc13, od13, .func (PySem.W.fnOf "_law_next" "_law_next" (defArgs S__law_next) (defBody S__law_next) (defScope S__law_next) .none kV13 dc13 pm13 an13 cd13 ct13), sl13⟩) (c13 : PySem.W.codeIn K cd13 "_law_next" = true) (k13 : PySem.W.keepIn K (.ref f13) = true)
    (a14 : PySem.W.nsIn K mainGlobals "_law_leaf" = some (some (.ref f14)))
    (l14 : K.lookup f14 = some ⟨oc14, od14, .func (PySem.W.fnOf "_law_leaf" "_law_leaf" (defArgs S__law_leaf) (defBody S__law_leaf) (defScope S__law_leaf) .none kV14 dc14 pm14 an14 cd14 ct14), sl14⟩) (c14 : PySem.W.codeIn K cd14 "_law_leaf" = true) (k14 : PySem.W.keepIn K (.ref f14) = true)
    (a15 : PySem.W.nsIn K mainGlobals "_law_new" = some (some (.ref f15)))
    (l15 : K.lookup f15 = some ⟨oc15, od15, .func (PySem.W.fnOf "_law_new" "_law_new" (defArgs S__law_new) (defBody S__law_new) (defScope S__law_new) .none kV15 dc15 pm15 an15 cd15 ct15), sl15⟩) (c15 : PySem.W.codeIn K cd15 "_law_new" = true) (k15 : PySem.W.keepIn K (.ref f15) = true)
    (a16 : PySem.W.nsIn K mainGlobals "_law_fn" = some (some (.ref f16)))
    (l16 : K.lookup f16 = some ⟨oc16, od16, .func (PySem.W.fnOf "_law_fn" "_law_fn" (defArgs S__law_fn) (defBody S__law_fn) (defScope S__law_fn) .none kV16 dc16 pm16 an16 cd16 ct16), sl16⟩) (c16 : PySem.W.codeIn K cd16 "_law_fn" = true) (k16 : PySem.W.keepIn K (.ref f16) = true)
    (a17 : PySem.W.nsIn K mainGlobals "_law_many" = some (some (.ref f17)))
    (l17 : K.lookup f17 = some ⟨oc17, od17, .func (PySem.W.fnOf "_law_many" "_law_many" (defArgs S__law_many) (defBody S__law_many) (defScope S__law_many) .none kV17 dc17 pm17 an17 cd17 ct17), sl17⟩) (c17 : PySem.W.codeIn K cd17 "_law_many" = true) (k17 : PySem.W.keepIn K (.ref f17) = true)
    (a18 : PySem.W.nsIn K mainGlobals "_law_odd" = some (some (.ref f18)))
    (l18 : K.lookup f18 = some ⟨oc18, od18, .func (PySem.W.fnOf "_law_odd" "_law_odd" (defArgs S__law_odd) (defBody S__law_odd) (defScope S__law_odd) .none kV18 dc18 pm18 an18 cd18 ct18), sl18⟩) (c18 : PySem.W.codeIn K cd18 "_law_odd" = true) (k18 : PySem.W.keepIn K (.ref f18) = true)
    (a19 : PySem.W.nsIn K mainGlobals "_law_sum" = some (some (.ref f19)))
    (l19 : K.lookup f19 = some ⟨oc19, od19, .func (PySem.W.fnOf "_law_sum" "_law_sum" (defArgs S__law_sum) (defBody S__law_sum) (defScope S__law_sum) .none kV19 dc19 pm19 an19 cd19 ct19), sl19⟩) (c19 : PySem.W.codeIn K cd19 "_law_sum" = true) (k19 : PySem.W.keepIn K (.ref f19) = true)
    (a20 : PySem.W.nsIn K mainGlobals "_law_items" = some (some (.ref f20)))
    (l20 : K.lookup f20 = some ⟨oc20, od20, .func (PySem.W.fnOf "_law_items" "_law_items" (defArgs S__law_items) (defBody S__law_items) (defScope S__law_items) .none kV20 dc20 pm20 an20 cd20 ct20), sl20⟩) (c20 : PySem.W.codeIn K cd20 "_law_items" = true) (k20 : PySem.W.keepIn K (.ref f20) = true)
    (a21 : PySem.W.nsIn K mainGlobals "_law_whole" = some (some (.ref f21)))
    (l21 : K.lookup f21 = some ⟨oc21, od21, .func (PySem.W.fnOf "_law_whole" "_law_whole" (defArgs S__law_whole) (defBody S__law_whole) (defScope S__law_whole) .none kV21 dc21 pm21 an21 cd21 ct21), sl21⟩) (c21 : PySem.W.codeIn K cd21 "_law_whole" = true) (k21 : PySem.W.keepIn K (.ref f21) = true)
    (a22 : PySem.W.nsIn K mainGlobals "law" = some (some (.ref f22)))
    (l22 : K.lookup f22 = some ⟨oc22, od22, .func (PySem.W.fnOf "law" "law" (defArgs S_law) (defBody S_law) (defScope S_law) .none kV22 dc22 pm22 an22 cd22 ct22), sl22⟩) (c22 : PySem.W.codeIn K cd22 "law" = true) (k22 : PySem.W.keepIn K (.ref f22) = true)
    (z_bool : PySem.W.nsIn K mainGlobals "bool" = some none)
    (z_dict : PySem.W.nsIn K mainGlobals "dict" = some none)
    (z_int : PySem.W.nsIn K mainGlobals "int" = some none)
    (z_isinstance : PySem.W.nsIn K mainGlobals "isinstance" = some none)
    (z_len : PySem.W.nsIn K mainGlobals "len" = some none)
    (z_list : PySem.W.nsIn K mainGlobals "list" = some none)
    (z_max : PySem.W.nsIn K mainGlobals "max" = some none)
    (z_range : PySem.W.nsIn K mainGlobals "range" = some none)
    (z_reversed : PySem.W.nsIn K mainGlobals "reversed" = some none)
    (z_tuple : PySem.W.nsIn K mainGlobals "tuple" = some none)
    (z_zip : PySem.W.nsIn K mainGlobals "zip" = some none)
    (pg_Machine : PySem.W.plainGet K C_Machine Str.empty = true) (hd_Machine : PySem.W.hasDictIn K C_Machine = true) (po_Machine : PySem.W.plainOver K C_Machine = true) (sa_Machine : PySem.W.findIn K (.ref C_Machine) "__setattr__" = some (some (.builtin "object.__setattr__"))) (mk_Machine : PySem.W.makesIn K C_Machine = true) (kc_Machine : PySem.W.keepIn K (.ref C_Machine) = true)
    (nf_Machine_tops : PySem.W.findIn K (.ref C_Machine) "tops" = some none)
    (nf_Machine_left : PySem.W.findIn K (.ref C_Machine) "left" = some none)
    (nf_Machine_todo : PySem.W.findIn K (.ref C_Machine) "todo" = some none)
    (nf_Machine_found : PySem.W.findIn K (.ref C_Machine) "found" = some none)
    (nf_Machine_ended : PySem.W.findIn K (.ref C_Machine) "ended" = some none) :
    ∃ fd : FuncData, (∀ (s : Shared) (v : Value), BindsTo s fd ⟨[v], []⟩ [("_law_script", v)]) ∧ ∀ base : Heap, K.In base → base.Ns mainGlobals mg → FnOk l.prog w K mg base CX0 16 fa fd ["_law_script"] (spF K P_law) := by
  have e : f22 = fa := by
    have q := hfa.symm.trans (PySem.W.mg_of X G a22)
    cases q
    rfl
  have FF10 : FunD K "run" "run" (defArgs S_run) (defBody S_run) (defScope S_run) [.int 200] [] f10 (PySem.W.fnOf "run" "run" (defArgs S_run) (defBody S_run) (defScope S_run) (.ref dt10) kV10 dc10 pm10 an10 cd10 ct10) := ⟨⟨oc10, od10, .ref dt10, kV10, dc10, pm10, an10, cd10, ct10, sl10, rfl, l10, c10, .inr ⟨by simp, dt10, _, [.int 200 tk10_0], dn10, rfl, dl10, rfl, (.cons ⟨_, rfl⟩ .nil)⟩, .inl rfl⟩, k10⟩
  have T : { T : Tx K mg // T.a_law = f22 ∧ T.d_law = PySem.W.fnOf "law" "law" (defArgs S_law) (defBody S_law) (defScope S_law) .none kV22 dc22 pm22 an22 cd22 ct22 } := ⟨{
    a_Machine___init__ := f0, d_Machine___init__ := PySem.W.fnOf "__init__" "Machine.__init__" (defArgs S_Machine___init__) (defBody S_Machine___init__) (defScope S_Machine___init__) .none kV0 dc0 pm0 an0 cd0 ct0, F_Machine___init__ := fun_mk l0 c0 k0,
    b_Machine___init__ := (fun_mk (st := S_Machine___init__) l0 c0 k0).binds (ps := ["self", "fuel"]) fun _ _ _ _ _ _ us hl => match us, hl with | [_, _], _ => rfl,
    a_Machine_come := f1, d_Machine_come := PySem.W.fnOf "come" "Machine.come" (defArgs S_Machine_come) (defBody S_Machine_come) (defScope S_Machine_come) .none kV1 dc1 pm1 an1 cd1 ct1, F_Machine_come := fun_mk l1 c1 k1,
    b_Machine_come := (fun_mk (st := S_Machine_come) l1 c1 k1).binds (ps := ["self", "core", "known"]) fun _ _ _ _ _ _ us hl => match us, hl with | [_, _, _], _ => rfl,
    a_Machine_operation := f2, d_Machine_operation := PySem.W.fnOf "operation" "Machine.operation" (defArgs S_Machine_operation) (defBody S_Machine_operation) (defScope S_Machine_operation) .none kV2 dc2 pm2 an2 cd2 ct2, F_Machine_operation := fun_mk l2 c2 k2,
    b_Machine_operation := (fun_mk (st := S_Machine_operation) l2 c2 k2).binds (ps := ["self", "name"]) fun _ _ _ _ _ _ us hl => match us, hl with | [_, _], _ => rfl,
    a_Machine_look := f3, d_Machine_look := PySem.W.fnOf "look" "Machine.look" (defArgs S_Machine_look) (defBody S_Machine_look) (defScope S_Machine_look) .none kV3 dc3 pm3 an3 cd3 ct3, F_Machine_look := fun_mk l3 c3 k3,
    b_Machine_look := (fun_mk (st := S_Machine_look) l3 c3 k3).binds (ps := ["self", "place", "known"]) fun _ _ _ _ _ _ us hl => match us, hl with | [_, _, _], _ => rfl,
    a_Machine_choose := f4, d_Machine_choose := PySem.W.fnOf "choose" "Machine.choose" (defArgs S_Machine_choose) (defBody S_Machine_choose) (defScope S_Machine_choose) .none kV4 dc4 pm4 an4 cd4 ct4, F_Machine_choose := fun_mk l4 c4 k4,
    b_Machine_choose := (fun_mk (st := S_Machine_choose) l4 c4 k4).binds (ps := ["self", "one", "other", "known"]) fun _ _ _ _ _ _ us hl => match us, hl with | [_, _, _, _], _ => rfl,
    a_Machine_call := f5, d_Machine_call := PySem.W.fnOf "call" "Machine.call" (defArgs S_Machine_call) (defBody S_Machine_call) (defScope S_Machine_call) .none kV5 dc5 pm5 an5 cd5 ct5, F_Machine_call := fun_mk l5 c5 k5,
    b_Machine_call := (fun_mk (st := S_Machine_call) l5 c5 k5).binds (ps := ["self", "many"]) fun _ _ _ _ _ _ us hl => match us, hl with | [_, _], _ => rfl,
    a_Machine_enter := f6, d_Machine_enter := PySem.W.fnOf "enter" "Machine.enter" (defArgs S_Machine_enter) (defBody S_Machine_enter) (defScope S_Machine_enter) .none kV6 dc6 pm6 an6 cd6 ct6, F_Machine_enter := fun_mk l6 c6 k6,
    b_Machine_enter := (fun_mk (st := S_Machine_enter) l6 c6 k6).binds (ps := ["self", "first", "things"]) fun _ _ _ _ _ _ us hl => match us, hl with | [_, _, _], _ => rfl,
    a_reckoned := f7, d_reckoned := PySem.W.fnOf "reckoned" "reckoned" (defArgs S_reckoned) (defBody S_reckoned) (defScope S_reckoned) .none kV7 dc7 pm7 an7 cd7 ct7, F_reckoned := fun_mk l7 c7 k7,
    b_reckoned := (fun_mk (st := S_reckoned) l7 c7 k7).binds (ps := ["name", "one", "other"]) fun _ _ _ _ _ _ us hl => match us, hl with | [_, _, _], _ => rfl,
    g_reckoned := PySem.W.mg_of X G a7,
    a_value_of := f8, d_value_of := PySem.W.fnOf "value_of" "value_of" (defArgs S_value_of) (defBody S_value_of) (defScope S_value_of) .none kV8 dc8 pm8 an8 cd8 ct8, F_value_of := fun_mk l8 c8 k8,
    b_value_of := (fun_mk (st := S_value_of) l8 c8 k8).binds (ps := ["machine", "core"]) fun _ _ _ _ _ _ us hl => match us, hl with | [_, _], _ => rfl,
    g_value_of := PySem.W.mg_of X G a8,
    a_answer := f9, d_answer := PySem.W.fnOf "answer" "answer" (defArgs S_answer) (defBody S_answer) (defScope S_answer) .none kV9 dc9 pm9 an9 cd9 ct9, F_answer := fun_mk l9 c9 k9,
    b_answer := (fun_mk (st := S_answer) l9 c9 k9).binds (ps := ["value"]) fun _ _ _ _ _ _ us hl => match us, hl with | [_], _ => rfl,
    g_answer := PySem.W.mg_of X G a9,
    a_run := f10, d_run := PySem.W.fnOf "run" "run" (defArgs S_run) (defBody S_run) (defScope S_run) (.ref dt10) kV10 dc10 pm10 an10 cd10 ct10, F_run := FF10,
    b_run := (match FunD.binds1 (ps := ["items", "fuel"]) FF10 2 1 (by simp) rfl (fun _ _ _ _ _ _ _ us its h1 h2 => match us, h1, its, h2 with | [_, _], _, [_], _ => ⟨_, rfl, rfl⟩) with | ⟨ds, v, b⟩ => by cases v; exact b),
    g_run := PySem.W.mg_of X G a10,
    a__law_cell_at := f11, d__law_cell_at := PySem.W.fnOf "_law_cell_at" "_law_cell_at" (defArgs S__law_cell_at) (defBody S__law_cell_at) (defScope S__law_cell_at) .none kV11 dc11 pm11 an11 cd11 ct11, F__law_cell_at := fun_mk l11 c11 k11,
    b__law_cell_at := (fun_mk (st := S__law_cell_at) l11 c11 k11).binds (ps := ["_law_script", "_law_k"]) fun _ _ _ _ _ _ us hl => match us, hl with | [_, _], _ => rfl,
    g__law_cell_at := PySem.W.mg_of X G a11,
    a__law_draws := f12, d__law_draws := PySem.W.fnOf "_law_draws" "_law_draws" (defArgs S__law_draws) (defBody S__law_draws) (defScope S__law_draws) .none kV12 dc12 pm12 an12 cd12 ct12, F__law_draws := fun_mk l12 c12 k12,
    b__law_draws := (fun_mk (st := S__law_draws) l12 c12 k12).binds (ps := ["_law_script", "_law_at", "_law_many_here", "_law_base"]) fun _ _ _ _ _ _ us hl => match us, hl with | [_, _, _, _], _ => rfl,
    g__law_draws := PySem.W.mg_of X G a12,
    a__law_next := f13, d__law_next := PySem.W.fnOf "_law_next" "_law_next" (defArgs S__law_next) (defBody S__law_next) (defScope S__law_next) .none kV13 dc13 pm13 an13 cd13 ct13, F__law_next := fun_mk l13 c13 k13,
    b__law_next := (fun_mk (st := S__law_next) l13 c13 k13).binds (ps := ["_law_draws_here"]) fun _ _ _ _ _ _ us hl => match us, hl with | [_], _ => rfl,
    g__law_next := PySem.W.mg_of X G a13,
    a__law_leaf := f14, d__law_leaf := PySem.W.fnOf "_law_leaf" "_law_leaf" (defArgs S__law_leaf) (defBody S__law_leaf) (defScope S__law_leaf) .none kV14 dc14 pm14 an14 cd14 ct14, F__law_leaf := fun_mk l14 c14 k14,
    b__law_leaf := (fun_mk (st := S__law_leaf) l14 c14 k14).binds (ps := ["_law_cell", "_law_known"]) fun _ _ _ _ _ _ us hl => match us, hl with | [_, _], _ => rfl,
    g__law_leaf := PySem.W.mg_of X G a14,
    a__law_new := f15, d__law_new := PySem.W.fnOf "_law_new" "_law_new" (defArgs S__law_new) (defBody S__law_new) (defScope S__law_new) .none kV15 dc15 pm15 an15 cd15 ct15, F__law_new := fun_mk l15 c15 k15,
    b__law_new := (fun_mk (st := S__law_new) l15 c15 k15).binds (ps := ["_law_count", "_law_many_here"]) fun _ _ _ _ _ _ us hl => match us, hl with | [_, _], _ => rfl,
    g__law_new := PySem.W.mg_of X G a15,
    a__law_fn := f16, d__law_fn := PySem.W.fnOf "_law_fn" "_law_fn" (defArgs S__law_fn) (defBody S__law_fn) (defScope S__law_fn) .none kV16 dc16 pm16 an16 cd16 ct16, F__law_fn := fun_mk l16 c16 k16,
    b__law_fn := (fun_mk (st := S__law_fn) l16 c16 k16).binds (ps := ["_law_draws_here", "_law_depth", "_law_known", "_law_tops", "_law_count", "_law_many_here"]) fun _ _ _ _ _ _ us hl => match us, hl with | [_, _, _, _, _, _], _ => rfl,
    g__law_fn := PySem.W.mg_of X G a16,
    a__law_many := f17, d__law_many := PySem.W.fnOf "_law_many" "_law_many" (defArgs S__law_many) (defBody S__law_many) (defScope S__law_many) .none kV17 dc17 pm17 an17 cd17 ct17, F__law_many := fun_mk l17 c17 k17,
    b__law_many := (fun_mk (st := S__law_many) l17 c17 k17).binds (ps := ["_law_draws_here", "_law_depth", "_law_known", "_law_tops", "_law_count", "_law_many_here"]) fun _ _ _ _ _ _ us hl => match us, hl with | [_, _, _, _, _, _], _ => rfl,
    g__law_many := PySem.W.mg_of X G a17,
    a__law_odd := f18, d__law_odd := PySem.W.fnOf "_law_odd" "_law_odd" (defArgs S__law_odd) (defBody S__law_odd) (defScope S__law_odd) .none kV18 dc18 pm18 an18 cd18 ct18, F__law_odd := fun_mk l18 c18 k18,
    b__law_odd := (fun_mk (st := S__law_odd) l18 c18 k18).binds (ps := ["_law_cell", "_law_parts"]) fun _ _ _ _ _ _ us hl => match us, hl with | [_, _], _ => rfl,
    g__law_odd := PySem.W.mg_of X G a18,
    a__law_sum := f19, d__law_sum := PySem.W.fnOf "_law_sum" "_law_sum" (defArgs S__law_sum) (defBody S__law_sum) (defScope S__law_sum) .none kV19 dc19 pm19 an19 cd19 ct19, F__law_sum := fun_mk l19 c19 k19,
    b__law_sum := (fun_mk (st := S__law_sum) l19 c19 k19).binds (ps := ["_law_draws_here", "_law_depth", "_law_known", "_law_tops", "_law_count"]) fun _ _ _ _ _ _ us hl => match us, hl with | [_, _, _, _, _], _ => rfl,
    g__law_sum := PySem.W.mg_of X G a19,
    a__law_items := f20, d__law_items := PySem.W.fnOf "_law_items" "_law_items" (defArgs S__law_items) (defBody S__law_items) (defScope S__law_items) .none kV20 dc20 pm20 an20 cd20 ct20, F__law_items := fun_mk l20 c20 k20,
    b__law_items := (fun_mk (st := S__law_items) l20 c20 k20).binds (ps := ["_law_cells", "_law_head", "_law_count"]) fun _ _ _ _ _ _ us hl => match us, hl with | [_, _, _], _ => rfl,
    g__law_items := PySem.W.mg_of X G a20,
    a__law_whole := f21, d__law_whole := PySem.W.fnOf "_law_whole" "_law_whole" (defArgs S__law_whole) (defBody S__law_whole) (defScope S__law_whole) .none kV21 dc21 pm21 an21 cd21 ct21, F__law_whole := fun_mk l21 c21 k21,
    b__law_whole := (fun_mk (st := S__law_whole) l21 c21 k21).binds (ps := ["_law_found", "_law_shows"]) fun _ _ _ _ _ _ us hl => match us, hl with | [_, _], _ => rfl,
    g__law_whole := PySem.W.mg_of X G a21,
    a_law := f22, d_law := PySem.W.fnOf "law" "law" (defArgs S_law) (defBody S_law) (defScope S_law) .none kV22 dc22 pm22 an22 cd22 ct22, F_law := fun_mk l22 c22 k22,
    b_law := (fun_mk (st := S_law) l22 c22 k22).binds (ps := ["_law_script"]) fun _ _ _ _ _ _ us hl => match us, hl with | [_], _ => rfl,
    g_law := PySem.W.mg_of X G a22,
    n_bool := PySem.W.mg_none_of X G z_bool,
    n_dict := PySem.W.mg_none_of X G z_dict,
    n_int := PySem.W.mg_none_of X G z_int,
    n_isinstance := PySem.W.mg_none_of X G z_isinstance,
    n_len := PySem.W.mg_none_of X G z_len,
    n_list := PySem.W.mg_none_of X G z_list,
    n_max := PySem.W.mg_none_of X G z_max,
    n_range := PySem.W.mg_none_of X G z_range,
    n_reversed := PySem.W.mg_none_of X G z_reversed,
    n_tuple := PySem.W.mg_none_of X G z_tuple,
    n_zip := PySem.W.mg_none_of X G z_zip,
    C_Machine := C_Machine, g_Machine := PySem.W.mg_of X G aC_Machine, c_Machine := ⟨pg_Machine, hd_Machine, po_Machine, sa_Machine⟩, M_Machine := ⟨mk_Machine, a0, i0, kc_Machine⟩,
    m_Machine_come := ⟨a1, i1, k1⟩,
    m_Machine_operation := ⟨a2, i2, k2⟩,
    m_Machine_look := ⟨a3, i3, k3⟩,
    m_Machine_choose := ⟨a4, i4, k4⟩,
    m_Machine_call := ⟨a5, i5, k5⟩,
    m_Machine_enter := ⟨a6, i6, k6⟩,
    na_Machine_tops := nf_Machine_tops,
    na_Machine_left := nf_Machine_left,
    na_Machine_todo := nf_Machine_todo,
    na_Machine_found := nf_Machine_found,
    na_Machine_ended := nf_Machine_ended }, rfl, rfl⟩
  obtain ⟨T, e1, e2⟩ := T
  refine ⟨T.d_law, fun s v => e2 ▸ .of_eq rfl, fun base _ _ => ?_⟩
  rw [← e, ← e1]
  exact ok_law T
end
end K65
open PySem PySem.W PyProof.Rows
set_option maxRecDepth 100000 in
set_option maxHeartbeats 0 in
theorem PySem.Challenge.cw_macrohouse_k65_whole_more_fuel_holds : PySem.Challenge.rw_macrohouse_k65_whole_more_fuel.Holds := by
  w_on; o_law; k_head; (case hw => w_witness2)
  k_fill
  refine L2.walk_ofB (l := PySem.Challenge.rw_macrohouse_k65_whole_more_fuel) (n := 63) (k := 16) (x := "_law_script") (CX := fun _ => L2.CX0) (sp := fun w => Pu.spF _ K65.P_law) rfl (by decide) rfl ⟨rfl, by decide, by decide⟩ (fun w h Y => PySem.W.kIn_of Y) ?F (fun w H a ns hl hb hO hS => K65.start_law w H a ns hl hb hO hS) (fun _ _ _ _ _ h => h)
  case F =>
    intro w mg fa h KX G hmg
    refine' K65.all_mk KX G hmg ?aC_Machine ?a0 ?i0 ?l0 ?c0 ?k0 ?a1 ?i1 ?l1 ?c1 ?k1 ?a2 ?i2 ?l2 ?c2 ?k2 ?a3 ?i3 ?l3 ?c3 ?k3 ?a4 ?i4 ?l4 ?c4 ?k4 ?a5 ?i5 ?l5 ?c5 ?k5 ?a6 ?i6 ?l6 ?c6 ?k6 ?a7 ?l7 ?c7 ?k7 ?a8 ?l8 ?c8 ?k8 ?a9 ?l9 ?c9 ?k9 ?a10 ?l10 ?c10 ?k10 ?dl10 ?a11 ?l11 ?c11 ?k11 ?a12 ?l12 ?c12 ?k12 ?a13 ?l13 ?c13 ?k13 ?a14 ?l14 ?c14 ?k14 ?a15 ?l15 ?c15 ?k15 ?a16 ?l16 ?c16 ?k16 ?a17 ?l17 ?c17 ?k17 ?a18 ?l18 ?c18 ?k18 ?a19 ?l19 ?c19 ?k19 ?a20 ?l20 ?c20 ?k20 ?a21 ?l21 ?c21 ?k21 ?a22 ?l22 ?c22 ?k22 ?z_bool ?z_dict ?z_int ?z_isinstance ?z_len ?z_list ?z_max ?z_range ?z_reversed ?z_tuple ?z_zip ?pg_Machine ?hd_Machine ?po_Machine ?sa_Machine ?mk_Machine ?kc_Machine ?nf_Machine_tops ?nf_Machine_left ?nf_Machine_todo ?nf_Machine_found ?nf_Machine_ended
    (case aC_Machine => k_is)
    (case a0 => k_is)
    (case i0 => k_is)
    (case l0 => k_is)
    (case c0 => k_is)
    (case k0 => k_is)
    (case a1 => k_is)
    (case i1 => k_is)
    (case l1 => k_is)
    (case c1 => k_is)
    (case k1 => k_is)
    (case a2 => k_is)
    (case i2 => k_is)
    (case l2 => k_is)
    (case c2 => k_is)
    (case k2 => k_is)
    (case a3 => k_is)
    (case i3 => k_is)
    (case l3 => k_is)
    (case c3 => k_is)
    (case k3 => k_is)
    (case a4 => k_is)
    (case i4 => k_is)
    (case l4 => k_is)
    (case c4 => k_is)
    (case k4 => k_is)
    (case a5 => k_is)
    (case i5 => k_is)
    (case l5 => k_is)
    (case c5 => k_is)
    (case k5 => k_is)
    (case a6 => k_is)
    (case i6 => k_is)
    (case l6 => k_is)
    (case c6 => k_is)
    (case k6 => k_is)
    (case a7 => k_is)
    (case l7 => k_is)
    (case c7 => k_is)
    (case k7 => k_is)
    (case a8 => k_is)
    (case l8 => k_is)
    (case c8 => k_is)
    (case k8 => k_is)
    (case a9 => k_is)
    (case l9 => k_is)
    (case c9 => k_is)
    (case k9 => k_is)
    (case a10 => k_is)
    (case l10 => k_is)
    (case c10 => k_is)
    (case k10 => k_is)
    (case dl10 => k_is)
    (case a11 => k_is)
    (case l11 => k_is)
    (case c11 => k_is)
    (case k11 => k_is)
    (case a12 => k_is)
    (case l12 => k_is)
    (case c12 => k_is)
    (case k12 => k_is)
    (case a13 => k_is)
    (case l13 => k_is)
    (case c13 => k_is)
    (case k13 => k_is)
    (case a14 => k_is)
    (case l14 => k_is)
    (case c14 => k_is)
    (case k14 => k_is)
    (case a15 => k_is)
    (case l15 => k_is)
    (case c15 => k_is)
    (case k15 => k_is)
    (case a16 => k_is)
    (case l16 => k_is)
    (case c16 => k_is)
    (case k16 => k_is)
    (case a17 => k_is)
    (case l17 => k_is)
    (case c17 => k_is)
    (case k17 => k_is)
    (case a18 => k_is)
    (case l18 => k_is)
    (case c18 => k_is)
    (case k18 => k_is)
    (case a19 => k_is)
    (case l19 => k_is)
    (case c19 => k_is)
    (case k19 => k_is)
    (case a20 => k_is)
    (case l20 => k_is)
    (case c20 => k_is)
    (case k20 => k_is)
    (case a21 => k_is)
    (case l21 => k_is)
    (case c21 => k_is)
    (case k21 => k_is)
    (case a22 => k_is)
    (case l22 => k_is)
    (case c22 => k_is)
    (case k22 => k_is)
    (case z_bool => k_is)
    (case z_dict => k_is)
    (case z_int => k_is)
    (case z_isinstance => k_is)
    (case z_len => k_is)
    (case z_list => k_is)
    (case z_max => k_is)
    (case z_range => k_is)
    (case z_reversed => k_is)
    (case z_tuple => k_is)
    (case z_zip => k_is)
    (case pg_Machine => k_is)
    (case hd_Machine => k_is)
    (case po_Machine => k_is)
    (case sa_Machine => k_is)
    (case mk_Machine => k_is)
    (case kc_Machine => k_is)
    (case nf_Machine_tops => k_is)
    (case nf_Machine_left => k_is)
    (case nf_Machine_todo => k_is)
    (case nf_Machine_found => k_is)
    (case nf_Machine_ended => k_is)
