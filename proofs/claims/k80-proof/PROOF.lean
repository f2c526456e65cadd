import PyProof.Rows.All
import Wide.All
import OpenK.AllK
import Wide.FinOn
import HandS.ForMost
import HandS.ForExc
import HandS.IsInst
import HandS.Deep
import HandS.Evl
import HandS.RevRange
import HandS.SortInts
import KE.KExcSuper
import HandS.ExcInit
import HandS.FStr
import KE.KExcIs
import HandS.ExcIs
import HandS.ExcField
import HandS.ExcOwn
import PySem.Challenge.RW_noughtmeet_k80_choices_of_tables
section
set_option Elab.async false
set_option linter.all false
set_option maxRecDepth 100000
set_option maxHeartbeats 1000000
/-! Nm: values as data, a functional reading of statements -/
namespace Nm
open PySem PySem.Spec PyProof.Rows L2

/-- data: what a value stands for; fz: the script's list, which is never written -/
inductive D where
  | non | bl (b : Bool) | int (i : Int) | str (s : Str) | lst (l : List D) | tup (l : List D) | fz (l : List D)
  deriving Inhabited

mutual
/-- v stands for d in H -/
inductive Rp (K : PySem.W.Frag) (H : Hp) : V → D → Prop
  | non : Rp K H .non .non
  | bl (b : Bool) : Rp K H (.bl b) (.bl b)
  | int (i : Int) : Rp K H (.int i) (.int i)
  | str (x : Str) : Rp K H (.str x) (.str x)
  | lst {a : Addr} {xs : List V} {ds : List D} : H a = some (.lst xs) → Rps K H xs ds → Rp K H (.ref a) (.lst ds)
  | tup {a : Addr} {xs : List V} {ds : List D} : SqT K H a xs → Rps K H xs ds → Rp K H (.ref a) (.tup ds)
  | fz {a : Addr} {xs : List V} {ds : List D} : SqL K H a xs → Rps K H xs ds → Rp K H (.ref a) (.fz ds)
inductive Rps (K : PySem.W.Frag) (H : Hp) : List V → List D → Prop
  | nil : Rps K H [] []
  | cons {v : V} {vs : List V} {d : D} {ds : List D} : Rp K H v d → Rps K H vs ds → Rps K H (v :: vs) (d :: ds)
end

theorem same_l {K : PySem.W.Frag} {H H' : Hp} {a : Addr} {xs : List V} (e : Same H H') (h : SqL K H a xs) : SqL K H' a xs := Evl.ex_l e h
theorem same_t {K : PySem.W.Frag} {H H' : Hp} {a : Addr} {xs : List V} (e : Same H H') (h : SqT K H a xs) : SqT K H' a xs := Evl.ex_t e h

mutual
theorem Rp.mono {K : PySem.W.Frag} {H H' : Hp} (e : Same H H') : ∀ {v : V} {d : D}, Rp K H v d → Rp K H' v d
  | _, _, .non => .non
  | _, _, .bl b => .bl b
  | _, _, .int i => .int i
  | _, _, .str x => .str x
  | _, _, .lst h t => .lst (e _ _ h) (Rps.mono e t)
  | _, _, .tup h t => .tup (same_t e h) (Rps.mono e t)
  | _, _, .fz h t => .fz (same_l e h) (Rps.mono e t)
theorem Rps.mono {K : PySem.W.Frag} {H H' : Hp} (e : Same H H') : ∀ {vs : List V} {ds : List D}, Rps K H vs ds → Rps K H' vs ds
  | _, _, .nil => .nil
  | _, _, .cons h t => .cons (Rp.mono e h) (Rps.mono e t)
end

section
variable {K : PySem.W.Frag} {H : Hp}
theorem Rps.length : ∀ {vs : List V} {ds : List D}, Rps K H vs ds → vs.length = ds.length
  | _, _, .nil => rfl
  | _, _, .cons _ t => by simp [Rps.length t]
theorem Rps.get : ∀ {vs : List V} {ds : List D} {i : Nat} {d : D}, Rps K H vs ds → ds[i]? = some d → ∃ v, vs[i]? = some v ∧ Rp K H v d
  | _, _, _, _, .nil, e => by simp at e
  | _, _, 0, _, .cons r _, e => by simp at e; subst e; exact ⟨_, rfl, r⟩
  | _, _, i + 1, d, .cons _ t, e => by
    obtain ⟨v, h1, h2⟩ := Rps.get (i := i) (d := d) t (by simpa using e)
    exact ⟨v, by simpa using h1, h2⟩
theorem Rps.append : ∀ {vs ws : List V} {ds es : List D}, Rps K H vs ds → Rps K H ws es → Rps K H (vs ++ ws) (ds ++ es)
  | _, _, _, _, .nil, s => s
  | _, _, _, _, .cons r t, s => .cons r (Rps.append t s)
theorem Rps.one {v : V} {d : D} (h : Rp K H v d) : Rps K H [v] [d] := .cons h .nil
theorem Rps.set {x : V} {d : D} (r : Rp K H x d) : ∀ {vs : List V} {ds : List D} (i : Nat), Rps K H vs ds → Rps K H (vs.set i x) (ds.set i d)
  | _, _, _, .nil => .nil
  | _, _, 0, .cons _ t => .cons r t
  | _, _, i + 1, .cons q t => .cons q (Rps.set r i t)
theorem Rps.take : ∀ {vs : List V} {ds : List D} (n : Nat), Rps K H vs ds → Rps K H (vs.take n) (ds.take n)
  | _, _, 0, _ => .nil
  | _, _, _ + 1, .nil => .nil
  | _, _, n + 1, .cons r t => .cons r (Rps.take n t)
theorem Rps.drop : ∀ {vs : List V} {ds : List D} (n : Nat), Rps K H vs ds → Rps K H (vs.drop n) (ds.drop n)
  | _, _, 0, r => r
  | _, _, _ + 1, .nil => .nil
  | _, _, n + 1, .cons _ t => Rps.drop n t
theorem Rps.dropLast : ∀ {vs : List V} {ds : List D}, Rps K H vs ds → Rps K H vs.dropLast ds.dropLast := fun {vs ds} h => by
  rw [List.dropLast_eq_take, List.dropLast_eq_take, h.length]
  exact h.take _
theorem Rps.ints : ∀ {vs : List V} {ns : List Int}, Rps K H vs (ns.map D.int) → vs = ns.map V.int
  | _, [], .nil => rfl
  | _, _ :: ns, .cons (.int i) t => by
    show _ :: _ = _ :: _
    rw [Rps.ints (ns := ns) t]
theorem Rps.ofInts : ∀ (ns : List Int), Rps K H (ns.map V.int) (ns.map D.int)
  | [] => .nil
  | n :: ns => .cons (.int n) (Rps.ofInts ns)
end

/-- growth: shared part and whole heap; what comes to the shared part is new -/
structure Gr (G H G' H' : Hp) : Prop where
  gg : Same G G'
  hh : Same H H'
  gh : Same G' H'
  nw : ∀ a o, G' a = some o → G a = some o ∨ H a = none
section
variable {G H G1 H1 G2 H2 : Hp} {p : Addr} {o : HO}
theorem Gr.refl (e : Same G H) : Gr G H G H := ⟨Same.refl G, Same.refl H, e, fun _ _ h => .inl h⟩
theorem Gr.trans (a : Gr G H G1 H1) (b : Gr G1 H1 G2 H2) : Gr G H G2 H2 := ⟨a.gg.trans b.gg, a.hh.trans b.hh, b.gh, fun x u h => by
  rcases b.nw x u h with h | h
  · exact a.nw x u h
  · exact .inr (a.hh.free h)⟩
theorem same_upd (h : H p = none) : Same H (upd H p o) := fun a u e => by
  rw [upd_ne (ne_of_none e h)]
  exact e
theorem same_upd2 (e : Same G H) (h : H p = none) : Same (upd G p o) (upd H p o) := fun a u q => by
  by_cases c : a = p
  · subst c
    rw [upd_same] at q ⊢
    exact q
  · rw [upd_ne c] at q ⊢
    exact e a u q
theorem Gr.new (e : Same G H) (h : H p = none) : Gr G H (upd G p o) (upd H p o) :=
  ⟨same_upd (e.free h), same_upd h, same_upd2 e h, fun a u q => by
    by_cases c : a = p
    · subst c
      exact .inr h
    · rw [upd_ne c] at q
      exact .inl q⟩
theorem Gr.hid (e : Same G H) (h : H p = none) : Gr G H G (upd H p o) :=
  ⟨Same.refl G, same_upd h, fun a u q => same_upd h a u (e a u q), fun _ _ q => .inl q⟩
theorem Gr.out (g : Gr G H G1 H1) {l : Addr} (hl : H l = some o) (gl : G l = none) : G1 l = none := by
  cases q : G1 l with
  | none => rfl
  | some u =>
    rcases g.nw l u q with z | z
    · rw [gl] at z
      cases z
    · rw [hl] at z
      cases z
end

/-- what a slot holds: nothing that is known, shared data, a list that is this slot's alone -/
inductive Cell where
  | no | sh (d : D) | ow (ds : List D)
  deriving Inhabited
abbrev En := List Cell

def RepC (K : PySem.W.Frag) (H0 G H : Hp) : Cell → Option V → Prop
  | .no, _ => True
  | .sh d, o => ∃ v, o = some v ∧ Rp K G v d
  | .ow ds, o => ∃ l xs, o = some (.ref l) ∧ H l = some (.lst xs) ∧ G l = none ∧ H0 l = none ∧ Rps K G xs ds

structure RepS (K : PySem.W.Frag) (G0 H0 G H : Hp) (σ : List (Option V)) (env : En) : Prop where
  gr : Gr G0 H0 G H
  len : env.length = σ.length
  rep : ∀ (i : Nat) (c : Cell), env[i]? = some c → ∃ o, σ[i]? = some o ∧ RepC K H0 G H c o
  dis : ∀ (i j : Nat) (ds es : List D) (l : Addr), env[i]? = some (.ow ds) → env[j]? = some (.ow es) → σ[i]? = some (some (.ref l)) → σ[j]? = some (some (.ref l)) → i = j

section
variable {K : PySem.W.Frag} {G0 H0 G H G2 H2 : Hp} {σ : List (Option V)} {env : En} {i : Nat} {d : D} {c : Cell}
theorem RepS.gh (R : RepS K G0 H0 G H σ env) : Same G H := R.gr.gh
theorem RepC.grow (g : Gr G H G2 H2) {o : Option V} : RepC K H0 G H c o → RepC K H0 G2 H2 c o := fun h => by
  cases c with
  | no => trivial
  | sh d =>
    obtain ⟨v, e, r⟩ := h
    exact ⟨v, e, r.mono g.gg⟩
  | ow ds =>
    obtain ⟨l, xs, e, hl, gl, h0, r⟩ := h
    exact ⟨l, xs, e, g.hh _ _ hl, g.out hl gl, h0, r.mono g.gg⟩
theorem RepS.grow (R : RepS K G0 H0 G H σ env) (g : Gr G H G2 H2) : RepS K G0 H0 G2 H2 σ env :=
  ⟨R.gr.trans g, R.len, fun i c e => by
    obtain ⟨o, h1, h2⟩ := R.rep i c e
    exact ⟨o, h1, h2.grow g⟩, R.dis⟩
theorem RepS.sh (R : RepS K G0 H0 G H σ env) (e : env[i]? = some (.sh d)) : ∃ v, σ[i]? = some (some v) ∧ Rp K G v d := by
  obtain ⟨o, h1, v, rfl, h2⟩ := R.rep i _ e
  exact ⟨v, h1, h2⟩
theorem RepS.ow (R : RepS K G0 H0 G H σ env) {ds : List D} (e : env[i]? = some (.ow ds)) : ∃ l xs, σ[i]? = some (some (.ref l)) ∧ H l = some (.lst xs) ∧ G l = none ∧ H0 l = none ∧ Rps K G xs ds := by
  obtain ⟨o, h1, l, xs, rfl, h2⟩ := R.rep i _ e
  exact ⟨l, xs, h1, h2⟩
/-- a slot is set to shared data -/
theorem RepS.setSh (R : RepS K G0 H0 G H σ env) {v : V} (r : Rp K G v d) : RepS K G0 H0 G H (σ.set i (some v)) (env.set i (.sh d)) := by
  refine ⟨R.gr, by simp [R.len], fun j c e => ?_, fun a b ds es l e1 e2 e3 e4 => ?_⟩
  · by_cases hj : i = j
    · subst hj
      obtain ⟨hi, e'⟩ := List.getElem?_eq_some_iff.mp e
      have hi' : i < env.length := by simpa using hi
      rw [List.getElem?_set_self hi'] at e
      cases e
      exact ⟨some v, by rw [List.getElem?_set_self (by rw [← R.len]; exact hi')], v, rfl, r⟩
    · rw [List.getElem?_set_ne hj] at e ⊢
      exact R.rep j c e
  · have na : i ≠ a := fun z => by
      subst z
      obtain ⟨hi, _⟩ := List.getElem?_eq_some_iff.mp e1
      rw [List.getElem?_set_self (by simpa using hi)] at e1
      cases e1
    have nb : i ≠ b := fun z => by
      subst z
      obtain ⟨hi, _⟩ := List.getElem?_eq_some_iff.mp e2
      rw [List.getElem?_set_self (by simpa using hi)] at e2
      cases e2
    rw [List.getElem?_set_ne na] at e1 e3
    rw [List.getElem?_set_ne nb] at e2 e4
    exact R.dis a b ds es l e1 e2 e3 e4
/-- a slot is forgotten -/
theorem RepS.setNo (R : RepS K G0 H0 G H σ env) {o : Option V} : RepS K G0 H0 G H (σ.set i o) (env.set i .no) := by
  refine ⟨R.gr, by simp [R.len], fun j c e => ?_, fun a b ds es l e1 e2 e3 e4 => ?_⟩
  · by_cases hj : i = j
    · subst hj
      obtain ⟨hi, e'⟩ := List.getElem?_eq_some_iff.mp e
      have hi' : i < env.length := by simpa using hi
      rw [List.getElem?_set_self hi'] at e
      cases e
      exact ⟨o, by rw [List.getElem?_set_self (by rw [← R.len]; exact hi')], trivial⟩
    · rw [List.getElem?_set_ne hj] at e ⊢
      exact R.rep j c e
  · have na : i ≠ a := fun z => by
      subst z
      obtain ⟨hi, _⟩ := List.getElem?_eq_some_iff.mp e1
      rw [List.getElem?_set_self (by simpa using hi)] at e1
      cases e1
    have nb : i ≠ b := fun z => by
      subst z
      obtain ⟨hi, _⟩ := List.getElem?_eq_some_iff.mp e2
      rw [List.getElem?_set_self (by simpa using hi)] at e2
      cases e2
    rw [List.getElem?_set_ne na] at e1 e3
    rw [List.getElem?_set_ne nb] at e2 e4
    exact R.dis a b ds es l e1 e2 e3 e4
/-- an owned list's address is not that of another owned slot -/
theorem RepS.owNe (R : RepS K G0 H0 G H σ env) {j : Nat} {es : List D} {l m : Addr} {ds : List D} (hi : env[i]? = some (.ow ds)) (hj : env[j]? = some (.ow es)) (ei : σ[i]? = some (some (.ref l))) (ej : σ[j]? = some (some (.ref m))) (n : i ≠ j) : m ≠ l := fun z => by
  subst z
  exact n (R.dis i j ds es m hi hj ei ej)
/-- a slot is set to a new list of its own -/
theorem RepS.setOw (R : RepS K G0 H0 G H σ env) {l : Addr} {xs : List V} {ds : List D} (hl : H l = some (.lst xs)) (gl : G l = none) (h0 : H0 l = none) (r : Rps K G xs ds)
    (nw : ∀ j es, j ≠ i → env[j]? = some (.ow es) → σ[j]? ≠ some (some (.ref l))) : RepS K G0 H0 G H (σ.set i (some (.ref l))) (env.set i (.ow ds)) := by
  refine ⟨R.gr, by simp [R.len], fun j c e => ?_, fun a b ds' es l' e1 e2 e3 e4 => ?_⟩
  · by_cases hj : i = j
    · subst hj
      obtain ⟨hi, e'⟩ := List.getElem?_eq_some_iff.mp e
      have hi' : i < env.length := by simpa using hi
      rw [List.getElem?_set_self hi'] at e
      cases e
      exact ⟨_, by rw [List.getElem?_set_self (by rw [← R.len]; exact hi')], l, xs, rfl, hl, gl, h0, r⟩
    · rw [List.getElem?_set_ne hj] at e ⊢
      exact R.rep j c e
  · by_cases ha : i = a
    · by_cases hb : i = b
      · rw [← ha, ← hb]
      · exfalso
        subst ha
        obtain ⟨hi, _⟩ := List.getElem?_eq_some_iff.mp e3
        rw [List.getElem?_set_self (by simpa using hi)] at e3
        rw [List.getElem?_set_ne hb] at e2 e4
        cases e3
        exact nw b _ (Ne.symm hb) e2 e4
    · rw [List.getElem?_set_ne ha] at e1 e3
      by_cases hb : i = b
      · exfalso
        subst hb
        obtain ⟨hi, _⟩ := List.getElem?_eq_some_iff.mp e4
        rw [List.getElem?_set_self (by simpa using hi)] at e4
        cases e4
        exact nw a _ (Ne.symm ha) e1 e3
      · rw [List.getElem?_set_ne hb] at e2 e4
        exact R.dis a b ds' es l' e1 e2 e3 e4
/-- an owned list is changed -/
theorem RepS.mut (R : RepS K G0 H0 G H σ env) {l : Addr} {ys : List V} {ds es : List D} (e : env[i]? = some (.ow ds)) (el : σ[i]? = some (some (.ref l))) (hl0 : ∃ xs, H l = some (.lst xs)) (gl : G l = none) (h0 : H0 l = none) (r : Rps K G ys es) :
    RepS K G0 H0 G (upd H l (.lst ys)) σ (env.set i (.ow es)) := by
  have hG : Same G (upd H l (.lst ys)) := fun a u q => by
    have na : a ≠ l := fun z => by
      subst z
      rw [gl] at q
      cases q
    rw [upd_ne na]
    exact R.gh a u q
  refine ⟨⟨R.gr.gg, fun a u q => ?_, hG, R.gr.nw⟩, by simp [R.len], fun j c e2 => ?_, fun a b ds' es' l' e1 e2 e3 e4 => ?_⟩
  · have na : a ≠ l := fun z => by
      subst z
      rw [h0] at q
      cases q
    rw [upd_ne na]
    exact R.gr.hh a u q
  · by_cases hj : i = j
    · subst hj
      obtain ⟨hi, _⟩ := List.getElem?_eq_some_iff.mp e
      rw [List.getElem?_set_self hi] at e2
      cases e2
      exact ⟨_, el, l, ys, rfl, upd_same, gl, h0, r⟩
    · rw [List.getElem?_set_ne hj] at e2
      obtain ⟨o, h1, h2⟩ := R.rep j c e2
      refine ⟨o, h1, ?_⟩
      cases c with
      | no => trivial
      | sh d => exact h2
      | ow fs =>
        obtain ⟨m, xs, rfl, hm, gm, hm0, rm⟩ := h2
        have nm : m ≠ l := fun z => hj (R.dis i j ds fs l e e2 el (by rw [h1, z]))
        exact ⟨m, xs, rfl, by rw [upd_ne nm]; exact hm, gm, hm0, rm⟩
  · have key : ∀ {a : Nat} {fs : List D}, (env.set i (.ow es))[a]? = some (.ow fs) → ∃ gs, env[a]? = some (.ow gs) := fun {a fs} q => by
      by_cases ha : i = a
      · subst ha
        exact ⟨_, e⟩
      · rw [List.getElem?_set_ne ha] at q
        exact ⟨_, q⟩
    obtain ⟨g1, q1⟩ := key e1
    obtain ⟨g2, q2⟩ := key e2
    exact R.dis a b g1 g2 l' q1 q2 e3 e4
/-- an owned list becomes shared -/
theorem RepS.freeze (R : RepS K G0 H0 G H σ env) {ds : List D} (e : env[i]? = some (.ow ds)) : ∃ G', Same G G' ∧ RepS K G0 H0 G' H σ (env.set i (.sh (.lst ds))) := by
  obtain ⟨l, xs, el, hl, gl, h0, r⟩ := R.ow e
  refine ⟨upd G l (.lst xs), same_upd gl, ⟨⟨R.gr.gg.trans (same_upd gl), R.gr.hh, fun a u q => ?_, fun a u q => ?_⟩, by simp [R.len], fun j c e2 => ?_, fun a b ds' es' l' e1 e2 e3 e4 => ?_⟩⟩
  · by_cases na : a = l
    · subst na
      rw [upd_same] at q
      rw [hl]
      exact q
    · rw [upd_ne na] at q
      exact R.gh a u q
  · by_cases na : a = l
    · subst na
      exact .inr h0
    · rw [upd_ne na] at q
      exact R.gr.nw a u q
  · by_cases hj : i = j
    · subst hj
      obtain ⟨hi, _⟩ := List.getElem?_eq_some_iff.mp e
      rw [List.getElem?_set_self hi] at e2
      cases e2
      exact ⟨_, el, _, rfl, .lst upd_same (r.mono (same_upd gl))⟩
    · rw [List.getElem?_set_ne hj] at e2
      obtain ⟨o, h1, h2⟩ := R.rep j c e2
      refine ⟨o, h1, ?_⟩
      cases c with
      | no => trivial
      | sh d =>
        obtain ⟨v, ev, rv⟩ := h2
        exact ⟨v, ev, rv.mono (same_upd gl)⟩
      | ow fs =>
        obtain ⟨m, ys, rfl, hm, gm, hm0, rm⟩ := h2
        have nm : m ≠ l := fun z => hj (R.dis i j ds fs l e e2 el (by rw [h1, z]))
        exact ⟨m, ys, rfl, hm, by rw [upd_ne nm]; exact gm, hm0, rm.mono (same_upd gl)⟩
  · have key : ∀ {a : Nat} {fs : List D}, (env.set i (.sh (.lst ds)))[a]? = some (.ow fs) → env[a]? = some (.ow fs) := fun {a fs} q => by
      by_cases ha : i = a
      · subst ha
        obtain ⟨hi, _⟩ := List.getElem?_eq_some_iff.mp e
        rw [List.getElem?_set_self hi] at q
        cases q
      · rw [List.getElem?_set_ne ha] at q
        exact q
    exact R.dis a b _ _ l' (key e1) (key e2) e3 e4
end
/-! bounds that stand still where a number is not known (Nat.ble looks at its first argument) -/
/-- below 2 ^ 64, whatever the sign -/
def smB (i : Int) : Bool := Nat.ble i.natAbs 18446744073709551615
/-- below 2 ^ 62 -/
def inR (i : Int) : Bool := Nat.ble i.natAbs 4611686018427387903
theorem smB_ok {i : Int} (h : smB i = true) : -(2 ^ 64) < i ∧ i < 2 ^ 64 := by
  have := Nat.le_of_ble_eq_true h
  omega
theorem smB_of {i : Int} (h : i.natAbs < 2 ^ 64) : smB i = true := Nat.ble_eq_true_of_le (by omega)
theorem inR_ok {i : Int} (h : inR i = true) : -(2 ^ 62) ≤ i ∧ i < 2 ^ 62 := by
  have := Nat.le_of_ble_eq_true h
  omega
theorem inR_of {i : Int} (h : i.natAbs < 2 ^ 62) : inR i = true := Nat.ble_eq_true_of_le (by omega)
end Nm
end

section
set_option Elab.async false
set_option linter.all false
set_option maxRecDepth 100000
set_option maxHeartbeats 1000000
namespace Nm
open PySem PySem.Spec PyProof.Rows L2

/-! ### results -/
structure Exc where
  cls : Str
  fs : List (Str × D)
inductive Res (α : Type) where
  | ok (a : α) (e : En) | exc (x : Exc) (e : En) | bad
def Res.bind {α β : Type} (r : Res α) (f : α → En → Res β) : Res β :=
  match r with
  | .ok a e => f a e
  | .exc x e => .exc x e
  | .bad => .bad
@[simp] theorem Res.bind_ok {α β : Type} (a : α) (e : En) (f : α → En → Res β) : (Res.ok a e).bind f = f a e := rfl
@[simp] theorem Res.bind_exc {α β : Type} (x : Exc) (e : En) (f : α → En → Res β) : (Res.exc x e).bind f = .exc x e := rfl
@[simp] theorem Res.bind_bad {α β : Type} (f : α → En → Res β) : (Res.bad : Res α).bind f = .bad := rfl
def ofO {α : Type} (o : Option α) (e : En) : Res α :=
  match o with
  | some a => .ok a e
  | none => .bad
@[simp] theorem ofO_some {α : Type} (a : α) (e : En) : ofO (some a) e = .ok a e := rfl
@[simp] theorem ofO_none {α : Type} (e : En) : ofO (none : Option α) e = .bad := rfl
abbrev ME := En → Res D
abbrev MT := En → Res Bool
abbrev MA := En → Res (List D)
inductive Rt where
  | sh (d : D) | ow (ds : List D)
inductive Out where
  | nx (e : En) | rt (r : Rt) (e : En) | bk (e : En) | ct (e : En) | exc (x : Exc) (e : En) | bad
abbrev MS := En → Out

/-- the exception x as it lies in the heap: its class, its fields in its own dict -/
def ExcR (K : PySem.W.Frag) (mg : Str → Option Value) (G H : Hp) (x : Exc) (c : Value) (od : Option Addr) : Prop :=
  mg x.cls = some c ∧ ((x.fs = [] ∧ od = none) ∨ ∃ dd kvs, od = some dd ∧ G dd = some (.xd kvs) ∧ kvs.map (·.1) = x.fs.map (·.1) ∧ Rps K G (kvs.map (·.2)) (x.fs.map (·.2)))
theorem ExcR.mono {K : PySem.W.Frag} {mg : Str → Option Value} {G H G2 H2 : Hp} {x : Exc} {c : Value} {od : Option Addr} (h : ExcR K mg G H x c od) (s : Same G G2) : ExcR K mg G2 H2 x c od :=
  ⟨h.1, h.2.imp id fun ⟨dd, kvs, e, g, m, r⟩ => ⟨dd, kvs, e, s _ _ g, m, r.mono s⟩⟩

section
variable {α β : Type}
/-- what is shown of a result: r is what the reading of an expression gives from (G, H) on -/
def PostE (X : Cx) (W : WX) (G0 H0 : Hp) (σ : L2.St) (G : Hp) (r : Res α) (P : α → En → Hp → Hp → Prop) : Prop :=
  match r with
  | .ok a env => ∀ G2 H2, RepS X.K G0 H0 G2 H2 σ env → Same G G2 → P a env G2 H2
  | .exc x env => ∀ c od G2 H2, RepS X.K G0 H0 G2 H2 σ env → Same G G2 → ExcR X.K X.mg G2 H2 x c od → W c od σ H2
  | .bad => False
variable {X : Cx} {W : WX} {G0 H0 G G1 H : Hp} {σ : L2.St} {env : En} {r : Res α} {P P' : α → En → Hp → Hp → Prop}
theorem PostE.mono (h : PostE X W G0 H0 σ G r P) (e : Same G G1) : PostE X W G0 H0 σ G1 r P := by
  cases r with
  | ok a env => exact fun G2 H2 R s => h G2 H2 R (e.trans s)
  | exc x env => exact fun c od G2 H2 R s => h c od G2 H2 R (e.trans s)
  | bad => exact h
theorem PostE.imp (h : PostE X W G0 H0 σ G r P) (f : ∀ a env G2 H2, RepS X.K G0 H0 G2 H2 σ env → Same G G2 → P a env G2 H2 → P' a env G2 H2) : PostE X W G0 H0 σ G r P' := by
  cases r with
  | ok a env => exact fun G2 H2 R s => f a env G2 H2 R s (h G2 H2 R s)
  | exc x env => exact h
  | bad => exact h
theorem PostE.bind {f : α → En → Res β} {P : β → En → Hp → Hp → Prop} (h : PostE X W G0 H0 σ G (r.bind f) P) :
    PostE X W G0 H0 σ G r (fun a env G2 H2 => PostE X W G0 H0 σ G2 (f a env) P) := by
  cases r with
  | ok a env => exact fun G2 H2 R s => PostE.mono (r := f a env) h s
  | exc x env => exact h
  | bad => exact h
theorem PostE.ofO {o : Option α} (h : PostE X W G0 H0 σ G (ofO o env) P) : ∃ a, o = some a ∧ ∀ G2 H2, RepS X.K G0 H0 G2 H2 σ env → Same G G2 → P a env G2 H2 := by
  cases o with
  | none => exact h.elim
  | some a => exact ⟨a, rfl, h⟩
/-- nothing raised in a block -/
theorem PostE.nox {W' : WX} (h : PostE X W G0 H0 σ G r P) (hw : ∀ c od H2, W c od σ H2 → W' c od σ H2) : PostE X W' G0 H0 σ G r P := by
  cases r with
  | ok a env => exact h
  | exc x env => exact fun c od G2 H2 R s e => hw _ _ _ (h c od G2 H2 R s e)
  | bad => exact h
end

/-- a new list at l that nothing else holds -/
structure Own (K : PySem.W.Frag) (H0 G H : Hp) (σ : L2.St) (env : En) (l : Addr) (xs : List V) (ds : List D) : Prop where
  at_ : H l = some (.lst xs)
  gl : G l = none
  h0 : H0 l = none
  ne : ∀ (j : Nat) (es : List D), env[j]? = some (.ow es) → σ[j]? ≠ some (some (.ref l))
  rps : Rps K G xs ds

theorem RepS.share {K : PySem.W.Frag} {G0 H0 G H : Hp} {σ : List (Option V)} {env : En} {l : Addr} {xs : List V} {ds : List D} (R : RepS K G0 H0 G H σ env) (O : Own K H0 G H σ env l xs ds) :
    RepS K G0 H0 (upd G l (.lst xs)) H σ env ∧ Same G (upd G l (.lst xs)) ∧ Rp K (upd G l (.lst xs)) (.ref l) (.lst ds) := by
  have sm : Same G (upd G l (.lst xs)) := same_upd O.gl
  refine ⟨⟨⟨R.gr.gg.trans sm, R.gr.hh, fun a u q => ?_, fun a u q => ?_⟩, R.len, fun j c e2 => ?_, R.dis⟩, sm, .lst upd_same (O.rps.mono sm)⟩
  · by_cases na : a = l
    · subst na
      rw [upd_same] at q
      rw [O.at_]
      exact q
    · rw [upd_ne na] at q
      exact R.gh a u q
  · by_cases na : a = l
    · subst na
      exact .inr O.h0
    · rw [upd_ne na] at q
      exact R.gr.nw a u q
  · obtain ⟨o, h1, h2⟩ := R.rep j c e2
    refine ⟨o, h1, ?_⟩
    cases c with
    | no => trivial
    | sh d =>
      obtain ⟨v, ev, rv⟩ := h2
      exact ⟨v, ev, rv.mono sm⟩
    | ow fs =>
      obtain ⟨m, ys, rfl, hm, gm, hm0, rm⟩ := h2
      have nm : m ≠ l := fun z => O.ne j fs e2 (by rw [h1, z])
      exact ⟨m, ys, rfl, hm, by rw [upd_ne nm]; exact gm, hm0, rm.mono sm⟩
/-- a list that is new in H is its own -/
theorem RepS.own {K : PySem.W.Frag} {G0 H0 G H : Hp} {σ : List (Option V)} {env : En} {l : Addr} {xs : List V} {ds : List D} (R : RepS K G0 H0 G H σ env) (hl : H l = none) (r : Rps K G xs ds) :
    RepS K G0 H0 G (upd H l (.lst xs)) σ env ∧ Own K H0 G (upd H l (.lst xs)) σ env l xs ds := by
  refine ⟨R.grow (Gr.hid R.gh hl), upd_same, R.gh.free hl, R.gr.hh.free hl, fun j es e q => ?_, r⟩
  obtain ⟨m, ys, em, hm, _⟩ := R.ow e
  rw [em] at q
  cases q
  rw [hl] at hm
  cases hm

/-! ### the judgements -/
structure DE (X : Cx) (W : WX) (e : Expr) (m : ME) : Prop where
  run : ∃ t : TE, PE X e t ∧ ∀ (G0 H0 G H : Hp) (σ : L2.St) (env : En) (Q : VK), RepS X.K G0 H0 G H σ env → PostE X W G0 H0 σ G (m env) (fun d _ G2 H2 => ∀ v, Rp X.K G2 v d → Q v H2) → t σ H Q
structure DO (X : Cx) (W : WX) (e : Expr) (m : MA) : Prop where
  run : ∃ t : TE, PE X e t ∧ ∀ (G0 H0 G H : Hp) (σ : L2.St) (env : En) (Q : VK), RepS X.K G0 H0 G H σ env → PostE X W G0 H0 σ G (m env) (fun ds env2 G2 H2 => ∀ l xs, Own X.K H0 G2 H2 σ env2 l xs ds → Q (.ref l) H2) → t σ H Q
structure DT (X : Cx) (W : WX) (e : Expr) (m : MT) : Prop where
  run : ∃ t : TT, PT X e t ∧ ∀ (G0 H0 G H : Hp) (σ : L2.St) (env : En) (Q : Bool → Hp → Prop), RepS X.K G0 H0 G H σ env → PostE X W G0 H0 σ G (m env) (fun b _ _ H2 => Q b H2) → t σ H Q
structure DW (X : Cx) (W : WX) (e : Expr) (m : MT) : Prop where
  run : ∃ t : TT, PW X e t ∧ ∀ (G0 H0 G H : Hp) (σ : L2.St) (env : En) (Q : Bool → Hp → Prop), RepS X.K G0 H0 G H σ env → PostE X W G0 H0 σ G (m env) (fun b _ _ H2 => Q b H2) → t σ H Q
structure DA (X : Cx) (W : WX) (es : List Expr) (m : MA) : Prop where
  run : ∃ t : TA, PA X es t ∧ ∀ (G0 H0 G H : Hp) (σ : L2.St) (env : En) (Q : List V → Hp → Prop), RepS X.K G0 H0 G H σ env → PostE X W G0 H0 σ G (m env) (fun ds _ G2 H2 => ∀ vs, Rps X.K G2 vs ds → Q vs H2) → t σ H Q

section
variable {X : Cx} {W : WX} {a b : Expr} {ma mb : ME} {pos : Pos}

/-! ### names and constants -/
@[simp] def mVar (i : Nat) : ME := fun env => match env[i]? with
  | some (.sh d) => .ok d env
  | _ => .bad
theorem de_var (i : Nat) {x : Str} {pos : Pos} (h : PE X (.Name x pos) (tVar i)) : DE X W (.Name x pos) (mVar i) := by
  refine ⟨_, h, fun G0 H0 G H σ env Q R p => ?_⟩
  unfold mVar at p
  split at p
  · rename_i d e
    obtain ⟨v, ev, r⟩ := R.sh e
    exact ⟨v, ev, p G H R (Same.refl G) v r⟩
  · exact p.elim
@[simp] def mC (d : D) : ME := fun env => .ok d env
theorem de_c {e : Expr} {v : V} {d : D} (h : PE X e (tC v)) (r : ∀ G, Rp X.K G v d) : DE X W e (mC d) :=
  ⟨_, h, fun G0 H0 G H σ env Q R p => p G H R (Same.refl G) v (r G)⟩
theorem de_int {i : Int} {j : Nat} : DE X W (.Constant (.int i) j pos) (mC (.int i)) := de_c pe_int fun _ => .int i
theorem de_bl {b : Bool} {j : Nat} : DE X W (.Constant (.bool b) j pos) (mC (.bl b)) := de_c pe_bl fun _ => .bl b
theorem de_non {j : Nat} : DE X W (.Constant .none j pos) (mC .non) := de_c pe_non fun _ => .non
theorem de_str {x : Str} {j : Nat} : DE X W (.Constant (.str x) j pos) (mC (.str x)) := de_c pe_str fun _ => .str x

/-! ### operators -/
/-- an operation by values agrees with g on data -/
def OpD (K : PySem.W.Frag) (r : R2) (g : D → D → Option D) : Prop :=
  ∀ (G H : Hp) (x y : V) (dx dy d : D) (Q : VK), Same G H → Rp K G x dx → Rp K G y dy → g dx dy = some d → (∀ v G2 H2, Gr G H G2 H2 → Rp K G2 v d → Q v H2) → r x y H Q
/-- .. that makes a new list -/
def OpL (K : PySem.W.Frag) (r : R2) (g : D → D → Option (List D)) : Prop :=
  ∀ (G H : Hp) (x y : V) (dx dy : D) (d : List D) (Q : VK), Same G H → Rp K G x dx → Rp K G y dy → g dx dy = some d → (∀ p xs, H p = none → Rps K G xs d → Q (.ref p) (upd H p (.lst xs))) → r x y H Q
def UnD (K : PySem.W.Frag) (r : V → Hp → VK → Prop) (g : D → Option D) : Prop :=
  ∀ (G H : Hp) (x : V) (dx d : D) (Q : VK), Same G H → Rp K G x dx → g dx = some d → (∀ v G2 H2, Gr G H G2 H2 → Rp K G2 v d → Q v H2) → r x H Q
def CallD (K : PySem.W.Frag) (r : List V → Hp → VK → Prop) (g : List D → Option D) : Prop :=
  ∀ (G H : Hp) (xs : List V) (ds : List D) (d : D) (Q : VK), Same G H → Rps K G xs ds → g ds = some d → (∀ v G2 H2, Gr G H G2 H2 → Rp K G2 v d → Q v H2) → r xs H Q
def CallL (K : PySem.W.Frag) (r : List V → Hp → VK → Prop) (g : List D → Option (List D)) : Prop :=
  ∀ (G H : Hp) (xs : List V) (ds : List D) (d : List D) (Q : VK), Same G H → Rps K G xs ds → g ds = some d → (∀ p ys, H p = none → Rps K G ys d → Q (.ref p) (upd H p (.lst ys))) → r xs H Q

@[simp] def mBin {α : Type} (g : D → D → Option α) (ma mb : ME) : En → Res α := fun env => (ma env).bind fun x e1 => (mb e1).bind fun y e2 => ofO (g x y) e2
@[simp] def mUn {α : Type} (g : D → Option α) (ma : ME) : En → Res α := fun env => (ma env).bind fun x e1 => ofO (g x) e1
@[simp] def mCB {α : Type} (g : List D → Option α) (ma : MA) : En → Res α := fun env => (ma env).bind fun x e1 => ofO (g x) e1

theorem bin_core {α : Type} {G0 H0 G H : Hp} {σ : L2.St} {env : En} {ta tb : TE} {r : V → V → Hp → Prop} {g : D → D → Option α} {P : α → En → Hp → Hp → Prop}
    (ha : ∀ (G0 H0 G H : Hp) (σ : L2.St) (env : En) (Q : VK), RepS X.K G0 H0 G H σ env → PostE X W G0 H0 σ G (ma env) (fun d _ G2 H2 => ∀ v, Rp X.K G2 v d → Q v H2) → ta σ H Q)
    (hb : ∀ (G0 H0 G H : Hp) (σ : L2.St) (env : En) (Q : VK), RepS X.K G0 H0 G H σ env → PostE X W G0 H0 σ G (mb env) (fun d _ G2 H2 => ∀ v, Rp X.K G2 v d → Q v H2) → tb σ H Q)
    (R : RepS X.K G0 H0 G H σ env) (p : PostE X W G0 H0 σ G (mBin g ma mb env) P)
    (hr : ∀ x y dx dy d env2 G2 H2, RepS X.K G0 H0 G2 H2 σ env2 → Rp X.K G2 x dx → Rp X.K G2 y dy → g dx dy = some d → (∀ G3 H3, RepS X.K G0 H0 G3 H3 σ env2 → Same G2 G3 → P d env2 G3 H3) → r x y H2) :
    ta σ H fun x H1 => tb σ H1 fun y H2 => r x y H2 := by
  refine ha G0 H0 G H σ env _ R ((PostE.bind p).imp fun dx env1 G1 H1 R1 s1 p1 x rx => ?_)
  refine hb G0 H0 G1 H1 σ env1 _ R1 ((PostE.bind p1).imp fun dy env2 G2 H2 R2 s2 p2 y ry => ?_)
  obtain ⟨d, e, k⟩ := p2.ofO
  exact hr x y dx dy d env2 G2 H2 R2 (rx.mono s2) ry e k
theorem de_op {op : Operator} {r : R2} {g : D → D → Option D} (ho : OpR X (binaryOp op) r) (hg : OpD X.K r g) (ha : DE X W a ma) (hb : DE X W b mb) : DE X W (.BinOp a op b pos) (mBin g ma mb) := by
  obtain ⟨ta, pa, ka⟩ := ha.run
  obtain ⟨tb, pb, kb⟩ := hb.run
  refine ⟨_, pe_op ho pa pb, fun G0 H0 G H σ env Q R p => ?_⟩
  exact bin_core ka kb R p fun x y dx dy d env2 G2 H2 R2 rx ry e k => hg G2 H2 x y dx dy d Q R2.gh rx ry e fun v G3 H3 g3 r3 => k G3 H3 (R2.grow g3) g3.gg v r3
theorem do_op {op : Operator} {r : R2} {g : D → D → Option (List D)} (ho : OpR X (binaryOp op) r) (hg : OpL X.K r g) (ha : DE X W a ma) (hb : DE X W b mb) : DO X W (.BinOp a op b pos) (mBin g ma mb) := by
  obtain ⟨ta, pa, ka⟩ := ha.run
  obtain ⟨tb, pb, kb⟩ := hb.run
  refine ⟨_, pe_op ho pa pb, fun G0 H0 G H σ env Q R p => ?_⟩
  exact bin_core ka kb R p fun x y dx dy d env2 G2 H2 R2 rx ry e k => hg G2 H2 x y dx dy d Q R2.gh rx ry e fun l xs hl rl => by
    obtain ⟨R3, O⟩ := R2.own hl rl
    exact k _ _ R3 (Same.refl _) l xs O
theorem de_cmp {op : CmpOp} {r : R2} {g : D → D → Option D} (ho : OpR X (compareOp op) r) (hg : OpD X.K r g) (ha : DE X W a ma) (hb : DE X W b mb) (hm : behindInMarks op b = false) : DE X W (.Compare a [op] [b] pos) (mBin g ma mb) := by
  obtain ⟨ta, pa, ka⟩ := ha.run
  obtain ⟨tb, pb, kb⟩ := hb.run
  refine ⟨_, pe_cmpR ho pa pb hm, fun G0 H0 G H σ env Q R p => ?_⟩
  exact bin_core ka kb R p fun x y dx dy d env2 G2 H2 R2 rx ry e k => hg G2 H2 x y dx dy d Q R2.gh rx ry e fun v G3 H3 g3 r3 => k G3 H3 (R2.grow g3) g3.gg v r3
/-- a bool as a test -/
@[simp] def mB (m : ME) : MT := fun env => (m env).bind fun d e => match d with
  | .bl b => .ok b e
  | _ => .bad
theorem test_of {t : TE} (h : ∀ (G0 H0 G H : Hp) (σ : L2.St) (env : En) (Q : VK), RepS X.K G0 H0 G H σ env → PostE X W G0 H0 σ G (ma env) (fun d _ G2 H2 => ∀ v, Rp X.K G2 v d → Q v H2) → t σ H Q)
    (G0 H0 G H : Hp) (σ : L2.St) (env : En) (Q : Bool → Hp → Prop) (R : RepS X.K G0 H0 G H σ env) (p : PostE X W G0 H0 σ G (mB ma env) (fun b _ _ H2 => Q b H2)) :
    t σ H fun x H' => ∃ k, x = .bl k ∧ Q k H' := by
  refine h G0 H0 G H σ env _ R ((PostE.bind p).imp fun d env1 G1 H1 R1 s1 p1 v rv => ?_)
  cases rv with
  | bl b => exact ⟨b, rfl, p1 G1 H1 R1 (Same.refl _)⟩
  | _ => exact p1.elim
theorem dt_cmp {op : CmpOp} {r : R2} {g : D → D → Option D} (ho : OpR X (compareOp op) r) (hg : OpD X.K r g) (ha : DE X W a ma) (hb : DE X W b mb) (hm : behindInMarks op b = false) : DT X W (.Compare a [op] [b] pos) (mB (mBin g ma mb)) := by
  obtain ⟨ta, pa, ka⟩ := ha.run
  obtain ⟨tb, pb, kb⟩ := hb.run
  refine ⟨_, pt_cmpR ho pa pb hm, ?_⟩
  refine test_of (ma := mBin g ma mb) (t := tOp r ta tb) fun G0 H0 G H σ env Q R p => ?_
  exact bin_core ka kb R p fun x y dx dy d env2 G2 H2 R2 rx ry e k => hg G2 H2 x y dx dy d Q R2.gh rx ry e fun v G3 H3 g3 r3 => k G3 H3 (R2.grow g3) g3.gg v r3
theorem dt_val (ha : DE X W a ma) (he : ∀ whole, isTrue a X.env whole = (do let v ← whole; standAt a.pos; holding [v] (truthy v)) := by intro _; rfl) : DT X W a (mB ma) := by
  obtain ⟨ta, pa, ka⟩ := ha.run
  exact ⟨_, pt_val pa he, test_of ka⟩
theorem de_un {op : UnaryOp} {r : V → Hp → VK → Prop} {g : D → Option D} (ho : UnR X (unaryOp op) r) (hg : UnD X.K r g) (ha : DE X W a ma) : DE X W (.UnaryOp op a pos) (mUn g ma) := by
  obtain ⟨ta, pa, ka⟩ := ha.run
  refine ⟨_, pe_un ho pa, fun G0 H0 G H σ env Q R p => ?_⟩
  refine ka G0 H0 G H σ env _ R ((PostE.bind p).imp fun dx env1 G1 H1 R1 s1 p1 x rx => ?_)
  obtain ⟨d, e, k⟩ := p1.ofO
  exact hg G1 H1 x dx d Q R1.gh rx e fun v G3 H3 g3 r3 => k G3 H3 (R1.grow g3) g3.gg v r3
/-- a list of its own, shared -/
@[simp] def mL (m : MA) : ME := fun env => (m env).bind fun ds e => .ok (.lst ds) e
theorem de_do {m : MA} (h : DO X W a m) : DE X W a (mL m) := by
  obtain ⟨t, pt, k⟩ := h.run
  refine ⟨t, pt, fun G0 H0 G H σ env Q R p => ?_⟩
  refine k G0 H0 G H σ env _ R ((PostE.bind p).imp fun ds env1 G1 H1 R1 s1 p1 l xs O => ?_)
  obtain ⟨R2, s2, r2⟩ := R1.share O
  exact p1 _ _ R2 s2 _ r2

/-! ### argument lists, displays -/
@[simp] def mNil : MA := fun env => .ok [] env
@[simp] def mCons (ma : ME) (mr : MA) : MA := fun env => (ma env).bind fun d e1 => (mr e1).bind fun ds e2 => .ok (d :: ds) e2
theorem da_nil : DA X W [] mNil := ⟨_, pa_nil, fun G0 H0 G H σ env Q R p => p G H R (Same.refl G) [] .nil⟩
theorem da_cons {es : List Expr} {mr : MA} (ha : DE X W a ma) (hr : DA X W es mr) (hs : starEach (a :: es) X.env = (false, eval a X.env) :: starEach es X.env := by rfl) : DA X W (a :: es) (mCons ma mr) := by
  obtain ⟨ta, pa, ka⟩ := ha.run
  obtain ⟨tr, pr, kr⟩ := hr.run
  refine ⟨_, pa_cons pa pr hs, fun G0 H0 G H σ env Q R p => ?_⟩
  refine ka G0 H0 G H σ env _ R ((PostE.bind p).imp fun dx env1 G1 H1 R1 s1 p1 x rx => ?_)
  refine kr G0 H0 G1 H1 σ env1 _ R1 ((PostE.bind p1).imp fun ds env2 G2 H2 R2 s2 p2 xs rs => ?_)
  exact p2 G2 H2 R2 (Same.refl _) (x :: xs) (.cons (rx.mono s2) rs)
@[simp] def gLst (ds : List D) : Option (List D) := if ds.length ≤ sizeLine then some ds else none
@[simp] def gTup (ds : List D) : Option D := if ds.length ≤ sizeLine then some (.tup ds) else none
theorem do_lst {es : List Expr} {m : MA} (h : DA X W es m) : DO X W (.List es pos) (mCB gLst m) := by
  obtain ⟨t, pt, k⟩ := h.run
  refine ⟨_, pe_lst pt, fun G0 H0 G H σ env Q R p => ?_⟩
  refine k G0 H0 G H σ env _ R ((PostE.bind p).imp fun ds env1 G1 H1 R1 s1 p1 xs rs => ?_)
  obtain ⟨d, e, q⟩ := p1.ofO
  unfold gLst at e
  split at e
  · rename_i hz
    cases e
    refine ⟨by rw [rs.length]; exact hz, fun l hl => ?_⟩
    obtain ⟨R3, O⟩ := R1.own hl rs
    exact q _ _ R3 (Same.refl _) l xs O
  · cases e
theorem de_tup {x1 : Nat} {es : List Expr} {m : MA} (h : DA X W es m) : DE X W (.Tuple es x1 pos) (mCB gTup m) := by
  obtain ⟨t, pt, k⟩ := h.run
  refine ⟨_, pe_tup pt, fun G0 H0 G H σ env Q R p => ?_⟩
  refine k G0 H0 G H σ env _ R ((PostE.bind p).imp fun ds env1 G1 H1 R1 s1 p1 xs rs => ?_)
  obtain ⟨d, e, q⟩ := p1.ofO
  unfold gTup at e
  split at e
  · rename_i hz
    cases e
    refine ⟨by rw [rs.length]; exact hz, fun l hl => ?_⟩
    exact q _ _ (R1.grow (Gr.new R1.gh hl)) (same_upd (R1.gh.free hl)) _ (.tup (.inl (.inl upd_same)) (rs.mono (same_upd (R1.gh.free hl))))
  · cases e
/-- built-in functions, types, by their rule -/
theorem de_cb {es : List Expr} {m : MA} {e : Expr} {r : List V → Hp → VK → Prop} {g : List D → Option D} (hp : ∀ t, PA X es t → PE X e (tCB r t)) (hg : CallD X.K r g) (h : DA X W es m) : DE X W e (mCB g m) := by
  obtain ⟨t, pt, k⟩ := h.run
  refine ⟨_, hp t pt, fun G0 H0 G H σ env Q R p => ?_⟩
  refine k G0 H0 G H σ env _ R ((PostE.bind p).imp fun ds env1 G1 H1 R1 s1 p1 xs rs => ?_)
  obtain ⟨d, e, q⟩ := p1.ofO
  exact hg G1 H1 xs ds d Q R1.gh rs e fun v G3 H3 g3 r3 => q G3 H3 (R1.grow g3) g3.gg v r3
theorem do_cb {es : List Expr} {m : MA} {e : Expr} {r : List V → Hp → VK → Prop} {g : List D → Option (List D)} (hp : ∀ t, PA X es t → PE X e (tCB r t)) (hg : CallL X.K r g) (h : DA X W es m) : DO X W e (mCB g m) := by
  obtain ⟨t, pt, k⟩ := h.run
  refine ⟨_, hp t pt, fun G0 H0 G H σ env Q R p => ?_⟩
  refine k G0 H0 G H σ env _ R ((PostE.bind p).imp fun ds env1 G1 H1 R1 s1 p1 xs rs => ?_)
  obtain ⟨d, e, q⟩ := p1.ofO
  exact hg G1 H1 xs ds d Q R1.gh rs e fun l ys hl rl => by
    obtain ⟨R3, O⟩ := R1.own hl rl
    exact q _ _ R3 (Same.refl _) l ys O
/-- a subscript -/
theorem de_ix {r : R2} {g : D → D → Option D} (hr : IxR X r) (hg : OpD X.K r g) (ha : DE X W a ma) (hb : DE X W b mb) (hs : PlainIx b) : DE X W (.Subscript a b pos) (mBin g ma mb) := by
  obtain ⟨ta, pa, ka⟩ := ha.run
  obtain ⟨tb, pb, kb⟩ := hb.run
  refine ⟨_, pe_ix hr pa pb hs, fun G0 H0 G H σ env Q R p => ?_⟩
  exact bin_core ka kb R p fun x y dx dy d env2 G2 H2 R2 rx ry e k => hg G2 H2 x y dx dy d Q R2.gh rx ry e fun v G3 H3 g3 r3 => k G3 H3 (R2.grow g3) g3.gg v r3
end
end Nm
end

section
set_option Elab.async false
set_option linter.all false
set_option maxRecDepth 100000
set_option maxHeartbeats 1000000
namespace Nm
open PySem PySem.Spec PyProof.Rows L2

/-! ### the canonical readings -/
def cE (X : Cx) (W : WX) (m : ME) : TE := fun σ H Q => ∃ G0 H0 G env, RepS X.K G0 H0 G H σ env ∧ PostE X W G0 H0 σ G (m env) (fun d _ G2 H2 => ∀ v, Rp X.K G2 v d → Q v H2)
def cT (X : Cx) (W : WX) (m : MT) : TT := fun σ H Q => ∃ G0 H0 G env, RepS X.K G0 H0 G H σ env ∧ PostE X W G0 H0 σ G (m env) (fun b _ _ H2 => Q b H2)
theorem DE.canon {X : Cx} {W : WX} {e : Expr} {m : ME} (h : DE X W e m) : PE X e (cE X W m) := by
  obtain ⟨t, p, k⟩ := h.run
  exact ⟨fun pins s σ H Q I ⟨G0, H0, G, env, R, q⟩ => p.run pins s σ H Q I (k G0 H0 G H σ env Q R q)⟩
theorem DT.canon {X : Cx} {W : WX} {e : Expr} {m : MT} (h : DT X W e m) : PT X e (cT X W m) := by
  obtain ⟨t, p, k⟩ := h.run
  exact ⟨fun pins s σ H Q I ⟨G0, H0, G, env, R, q⟩ => p.run pins s σ H Q I (k G0 H0 G H σ env Q R q)⟩

section
variable {X : Cx} {W : WX} {a b c : Expr} {ma mb mc : ME} {ta tb tc : MT} {rest : List Expr} {pos : Pos}
/-! ### tests -/
theorem DW.dt (h : DW X W a ta) : DT X W a ta := by
  obtain ⟨t, p, k⟩ := h.run
  exact ⟨t, p.pt, k⟩
theorem dw_and1 (h : DT X W a ta) : DW X W (.BoolOp .And [a] pos) ta := by
  obtain ⟨t, p, k⟩ := h.run
  exact ⟨t, pw_and1 p, k⟩
theorem dw_or1 (h : DT X W a ta) : DW X W (.BoolOp .Or [a] pos) ta := by
  obtain ⟨t, p, k⟩ := h.run
  exact ⟨t, pw_or1 p, k⟩
@[simp] def mAnd (ta tb : MT) : MT := fun env => (ta env).bind fun x e1 => if x = true then tb e1 else .ok false e1
@[simp] def mOr (ta tb : MT) : MT := fun env => (ta env).bind fun x e1 => if x = true then .ok true e1 else tb e1
@[simp] def mNot (ta : MT) : MT := fun env => (ta env).bind fun x e1 => .ok (!x) e1
theorem dw_and (ha : DT X W a ta) (hb : DW X W (.BoolOp .And (b :: rest) pos) tb) : DW X W (.BoolOp .And (a :: b :: rest) pos) (mAnd ta tb) := by
  obtain ⟨t, p, k⟩ := ha.run
  obtain ⟨u, p2, k2⟩ := hb.run
  refine ⟨_, pw_and p p2, fun G0 H0 G H σ env Q R q => ?_⟩
  refine k G0 H0 G H σ env _ R ((PostE.bind q).imp fun x env1 G1 H1 R1 s1 q1 => ?_)
  cases x with
  | true => exact k2 G0 H0 G1 H1 σ env1 Q R1 q1
  | false => exact q1 G1 H1 R1 (Same.refl _)
theorem dw_or (ha : DT X W a ta) (hb : DW X W (.BoolOp .Or (b :: rest) pos) tb) : DW X W (.BoolOp .Or (a :: b :: rest) pos) (mOr ta tb) := by
  obtain ⟨t, p, k⟩ := ha.run
  obtain ⟨u, p2, k2⟩ := hb.run
  refine ⟨_, pw_or p p2, fun G0 H0 G H σ env Q R q => ?_⟩
  refine k G0 H0 G H σ env _ R ((PostE.bind q).imp fun x env1 G1 H1 R1 s1 q1 => ?_)
  cases x with
  | true => exact q1 G1 H1 R1 (Same.refl _)
  | false => exact k2 G0 H0 G1 H1 σ env1 Q R1 q1
theorem dt_not (ha : DT X W a ta) : DT X W (.UnaryOp .Not a pos) (mNot ta) := by
  obtain ⟨t, p, k⟩ := ha.run
  refine ⟨_, pt_not p, fun G0 H0 G H σ env Q R q => ?_⟩
  exact k G0 H0 G H σ env _ R ((PostE.bind q).imp fun x env1 G1 H1 R1 s1 q1 => q1 G1 H1 R1 (Same.refl _))
/-- and, or, not of bools as values -/
@[simp] def mBl (t : MT) : ME := fun env => (t env).bind fun x e1 => .ok (.bl x) e1
theorem de_one {op : BoolOp} (h : DE X W a ma) : DE X W (.BoolOp op [a] pos) ma := by
  obtain ⟨t, p, k⟩ := h.run
  exact ⟨t, pe_one p, k⟩
theorem de_and (ha : DE X W a ma) (hb : DE X W (.BoolOp .And (b :: rest) pos) mb) : DE X W (.BoolOp .And (a :: b :: rest) pos) (fun env => (mB ma env).bind fun x e1 => if x = true then mb e1 else .ok (.bl false) e1) := by
  obtain ⟨t, p, k⟩ := ha.run
  obtain ⟨u, p2, k2⟩ := hb.run
  refine ⟨_, pe_and p p2, fun G0 H0 G H σ env Q R q => ?_⟩
  refine test_of k G0 H0 G H σ env (fun c H1 => if c = true then u σ H1 Q else Q (.bl false) H1) R ((PostE.bind q).imp fun x env1 G1 H1 R1 s1 q1 => ?_)
  cases x with
  | true => exact k2 G0 H0 G1 H1 σ env1 Q R1 q1
  | false => exact q1 G1 H1 R1 (Same.refl _) _ (.bl false)
theorem de_or (ha : DE X W a ma) (hb : DE X W (.BoolOp .Or (b :: rest) pos) mb) : DE X W (.BoolOp .Or (a :: b :: rest) pos) (fun env => (mB ma env).bind fun x e1 => if x = true then .ok (.bl true) e1 else mb e1) := by
  obtain ⟨t, p, k⟩ := ha.run
  obtain ⟨u, p2, k2⟩ := hb.run
  refine ⟨_, pe_or p p2, fun G0 H0 G H σ env Q R q => ?_⟩
  refine test_of k G0 H0 G H σ env (fun c H1 => if c = true then Q (.bl true) H1 else u σ H1 Q) R ((PostE.bind q).imp fun x env1 G1 H1 R1 s1 q1 => ?_)
  cases x with
  | true => exact q1 G1 H1 R1 (Same.refl _) _ (.bl true)
  | false => exact k2 G0 H0 G1 H1 σ env1 Q R1 q1
theorem de_not (ha : DE X W a ma) : DE X W (.UnaryOp .Not a pos) (fun env => (mB ma env).bind fun x e1 => .ok (.bl (!x)) e1) := by
  obtain ⟨t, p, k⟩ := ha.run
  refine ⟨_, pe_not p, fun G0 H0 G H σ env Q R q => ?_⟩
  exact test_of k G0 H0 G H σ env (fun c H1 => Q (.bl (!c)) H1) R ((PostE.bind q).imp fun x env1 G1 H1 R1 s1 q1 => q1 G1 H1 R1 (Same.refl _) _ (.bl _))
@[simp] def mIf {α : Type} (t : MT) (ma mb : En → Res α) : En → Res α := fun env => (t env).bind fun x e1 => if x = true then ma e1 else mb e1
theorem de_if (hc : DT X W c tc) (ha : DE X W a ma) (hb : DE X W b mb) : DE X W (.IfExp c a b pos) (mIf tc ma mb) := by
  obtain ⟨t, p, k⟩ := hc.run
  obtain ⟨u, p2, k2⟩ := ha.run
  obtain ⟨w, p3, k3⟩ := hb.run
  refine ⟨_, pe_ifExp p p2 p3, fun G0 H0 G H σ env Q R q => ?_⟩
  refine k G0 H0 G H σ env _ R ((PostE.bind q).imp fun x env1 G1 H1 R1 s1 q1 => ?_)
  cases x with
  | true => exact k2 G0 H0 G1 H1 σ env1 Q R1 q1
  | false => exact k3 G0 H0 G1 H1 σ env1 Q R1 q1
/-- a op1 b op2 c -/
@[simp] def mChain (g g' : D → D → Option D) (ma mb mc : ME) : ME := fun env => (ma env).bind fun x e1 => (mb e1).bind fun y e2 => (ofO (g x y) e2).bind fun z e3 => match z with
  | .bl true => (mc e3).bind fun w e4 => ofO (g' y w) e4
  | .bl false => .ok (.bl false) e3
  | _ => .bad
theorem chain_core {op op' : CmpOp} {r r' : R2} {g g' : D → D → Option D} (hg : OpD X.K r g) (hg' : OpD X.K r' g') {t u w : TE}
    (k : ∀ (G0 H0 G H : Hp) (σ : L2.St) (env : En) (Q : VK), RepS X.K G0 H0 G H σ env → PostE X W G0 H0 σ G (ma env) (fun d _ G2 H2 => ∀ v, Rp X.K G2 v d → Q v H2) → t σ H Q)
    (k2 : ∀ (G0 H0 G H : Hp) (σ : L2.St) (env : En) (Q : VK), RepS X.K G0 H0 G H σ env → PostE X W G0 H0 σ G (mb env) (fun d _ G2 H2 => ∀ v, Rp X.K G2 v d → Q v H2) → u σ H Q)
    (k3 : ∀ (G0 H0 G H : Hp) (σ : L2.St) (env : En) (Q : VK), RepS X.K G0 H0 G H σ env → PostE X W G0 H0 σ G (mc env) (fun d _ G2 H2 => ∀ v, Rp X.K G2 v d → Q v H2) → w σ H Q)
    (G0 H0 G H : Hp) (σ : L2.St) (env : En) (Q : VK) (R : RepS X.K G0 H0 G H σ env) (q : PostE X W G0 H0 σ G (mChain g g' ma mb mc env) (fun d _ G2 H2 => ∀ v, Rp X.K G2 v d → Q v H2)) : tChain r r' t u w σ H Q := by
  refine k G0 H0 G H σ env _ R ((PostE.bind q).imp fun dx env1 G1 H1 R1 s1 q1 x rx => ?_)
  refine k2 G0 H0 G1 H1 σ env1 _ R1 ((PostE.bind q1).imp fun dy env2 G2 H2 R2 s2 q2 y ry => ?_)
  obtain ⟨dz, e, q3⟩ := (PostE.bind q2).ofO
  refine hg G2 H2 x y dx dy dz _ R2.gh (rx.mono s2) ry e fun z G3 H3 g3 rz => ?_
  have q4 := q3 G3 H3 (R2.grow g3) g3.gg
  cases rz with
  | bl b0 =>
    cases b0 with
    | false => exact ⟨false, rfl, q4 G3 H3 (R2.grow g3) (Same.refl _) _ (.bl false)⟩
    | true =>
      refine ⟨true, rfl, ?_⟩
      refine k3 G0 H0 G3 H3 σ _ _ (R2.grow g3) ((PostE.bind q4).imp fun dw env4 G4 H4 R4 s4 q5 v rv => ?_)
      obtain ⟨d, e5, q6⟩ := q5.ofO
      exact hg' G4 H4 y v dy dw d Q R4.gh ((ry.mono g3.gg).mono s4) rv e5 fun v' G5 H5 g5 r5 => q6 G5 H5 (R4.grow g5) g5.gg v' r5
  | _ => exact q4.elim
theorem de_chain {op op' : CmpOp} {r r' : R2} {g g' : D → D → Option D} (ho : OpR X (compareOp op) r) (ho' : OpR X (compareOp op') r') (hg : OpD X.K r g) (hg' : OpD X.K r' g') (ha : DE X W a ma) (hb : DE X W b mb) (hc : DE X W c mc)
    (hm : lastMarks [op, op'] [b, c] = false := by with_unfolding_all rfl) : DE X W (.Compare a [op, op'] [b, c] pos) (mChain g g' ma mb mc) := by
  obtain ⟨t, p, k⟩ := ha.run
  obtain ⟨u, p2, k2⟩ := hb.run
  obtain ⟨w, p3, k3⟩ := hc.run
  exact ⟨_, pe_chain ho ho' p p2 p3 hm, chain_core (op := op) (op' := op') hg hg' k k2 k3⟩
theorem dt_chain {op op' : CmpOp} {r r' : R2} {g g' : D → D → Option D} (ho : OpR X (compareOp op) r) (ho' : OpR X (compareOp op') r') (hg : OpD X.K r g) (hg' : OpD X.K r' g') (ha : DE X W a ma) (hb : DE X W b mb) (hc : DE X W c mc)
    (hm : lastMarks [op, op'] [b, c] = false := by with_unfolding_all rfl) : DT X W (.Compare a [op, op'] [b, c] pos) (mB (mChain g g' ma mb mc)) := by
  obtain ⟨t, p, k⟩ := ha.run
  obtain ⟨u, p2, k2⟩ := hb.run
  obtain ⟨w, p3, k3⟩ := hc.run
  refine ⟨_, pt_chain ho ho' p p2 p3 hm, ?_⟩
  exact test_of (ma := mChain g g' ma mb mc) (chain_core (op := op) (op' := op') hg hg' k k2 k3)
end

/-! ### borrowing: a slot's own list is read as shared data by an expression whose value is a bool or an int -/
def scalD : D → Bool
  | .bl _ => true
  | .int _ => true
  | .str _ => true
  | .non => true
  | _ => false
theorem Rp.scal {K : PySem.W.Frag} {G G' : Hp} {v : V} {d : D} (r : Rp K G v d) (h : scalD d = true) : Rp K G' v d := by
  cases r with
  | non => exact .non
  | bl b => exact .bl b
  | int i => exact .int i
  | str x => exact .str x
  | _ => exact absurd (show false = true from h) Bool.false_ne_true
/-- the slot i, frozen -/
@[simp] def frz (i : Nat) (env : En) : En := match env[i]? with
  | some (.ow ds) => env.set i (.sh (.lst ds))
  | _ => env
theorem RepS.frz {K : PySem.W.Frag} {G0 H0 G H : Hp} {σ : List (Option V)} {env : En} (R : RepS K G0 H0 G H σ env) (i : Nat) : ∃ G', Same G G' ∧ RepS K G0 H0 G' H σ (frz i env) := by
  unfold Nm.frz
  split
  · rename_i ds e
    exact R.freeze e
  · exact ⟨G, Same.refl G, R⟩
@[simp] def frzC : Cell → Cell
  | .ow ds => .sh (.lst ds)
  | c => c
/-- all slots frozen: the shared part is then the whole of what the env holds; nothing of H is changed -/
theorem RepS.all {K : PySem.W.Frag} {G0 H0 G H : Hp} {σ : List (Option V)} {env : En} (R : RepS K G0 H0 G H σ env) : ∃ G', Same G G' ∧ RepS K G' H G' H σ (env.map frzC) := by
  classical
  let P : Addr → Prop := fun a => ∃ (i : Nat) (ds : List D), env[i]? = some (.ow ds) ∧ σ[i]? = some (some (.ref a))
  let G' : Hp := fun a => if P a then H a else G a
  have sg : Same G G' := fun a u q => by
    by_cases p : P a
    · obtain ⟨i, ds, e, es⟩ := p
      obtain ⟨l, xs, el, hl, gl, _⟩ := R.ow e
      rw [es] at el
      cases el
      rw [gl] at q
      cases q
    · show (if P a then H a else G a) = some u
      rw [if_neg p]
      exact q
  have gh : Same G' H := fun a u q => by
    have q' : (if P a then H a else G a) = some u := q
    by_cases p : P a
    · rw [if_pos p] at q'
      exact q'
    · rw [if_neg p] at q'
      exact R.gh a u q'
  refine ⟨G', sg, Gr.refl gh, by simp [R.len], fun i c e => ?_, fun a b ds' es' l' e1 e2 e3 e4 => ?_⟩
  · rw [List.getElem?_map] at e
    cases q : env[i]? with
    | none =>
      rw [q] at e
      cases e
    | some c0 =>
      rw [q] at e
      cases e
      obtain ⟨o, h1, h2⟩ := R.rep i c0 q
      refine ⟨o, h1, ?_⟩
      cases c0 with
      | no => trivial
      | sh d =>
        obtain ⟨v, ev, rv⟩ := h2
        exact ⟨v, ev, rv.mono sg⟩
      | ow fs =>
        obtain ⟨m, ys, rfl, hm, gm, hm0, rm⟩ := h2
        refine ⟨_, rfl, .lst (xs := ys) ?_ (rm.mono sg)⟩
        show (if P m then H m else G m) = _
        rw [if_pos (show P m from ⟨i, fs, q, h1⟩)]
        exact hm
  · rw [List.getElem?_map] at e1
    cases q : env[a]? with
    | none =>
      rw [q] at e1
      cases e1
    | some c0 =>
      rw [q] at e1
      cases c0 with
      | no => cases e1
      | sh d => cases e1
      | ow fs => cases e1
/-- an expression that reads all slots as shared data, its value a bool, an int, a text or None -/
@[simp] def mBor (m : ME) : ME := fun env => match m (env.map frzC) with
  | .ok d _ => if scalD d = true then .ok d env else .bad
  | _ => .bad
@[simp] def mBorT (m : MT) : MT := fun env => match m (env.map frzC) with
  | .ok d _ => .ok d env
  | _ => .bad
def mBorO (m : MA) : MA := fun env => match m (env.map frzC) with
  | .ok ds _ => if ds.all scalD = true then .ok ds env else .bad
  | _ => .bad
theorem Rps.scal {K : PySem.W.Frag} {G G' : Hp} : ∀ {vs : List V} {ds : List D}, Rps K G vs ds → ds.all scalD = true → Rps K G' vs ds
  | _, _, .nil, _ => .nil
  | _, _, .cons r t, h => by
    rw [List.all_cons, Bool.and_eq_true] at h
    exact .cons (r.scal h.1) (Rps.scal t h.2)
section
variable {X : Cx} {W : WX} {a : Expr}
theorem de_bor {m : ME} (h : DE X W a m) : DE X W a (mBor m) := by
  obtain ⟨t, p, k⟩ := h.run
  refine ⟨t, p, fun G0 H0 G H σ env Q R q => ?_⟩
  obtain ⟨G', sg, R'⟩ := R.all
  unfold mBor at q
  refine k G' H G' H σ _ Q R' ?_
  generalize m (env.map frzC) = r at q
  cases r with
  | ok d e =>
    intro G2 H2 R2 s2 v rv
    dsimp only at q
    split at q
    · rename_i hs
      exact q G H2 (R.grow ⟨Same.refl G, R2.gr.hh, fun a u z => R2.gr.hh a u (R.gh a u z), fun _ _ z => .inl z⟩) (Same.refl G) v (rv.scal hs)
    · exact q.elim
  | exc x e => exact q.elim
  | bad => exact q.elim
theorem dt_bor {m : MT} (h : DT X W a m) : DT X W a (mBorT m) := by
  obtain ⟨t, p, k⟩ := h.run
  refine ⟨t, p, fun G0 H0 G H σ env Q R q => ?_⟩
  obtain ⟨G', sg, R'⟩ := R.all
  unfold mBorT at q
  refine k G' H G' H σ _ Q R' ?_
  generalize m (env.map frzC) = r at q
  cases r with
  | ok d e =>
    intro G2 H2 R2 s2
    exact q G H2 (R.grow ⟨Same.refl G, R2.gr.hh, fun a u z => R2.gr.hh a u (R.gh a u z), fun _ _ z => .inl z⟩) (Same.refl G)
  | exc x e => exact q.elim
  | bad => exact q.elim
theorem do_bor {m : MA} (h : DO X W a m) : DO X W a (mBorO m) := by
  obtain ⟨t, p, k⟩ := h.run
  refine ⟨t, p, fun G0 H0 G H σ env Q R q => ?_⟩
  obtain ⟨G', sg, R'⟩ := R.all
  unfold mBorO at q
  refine k G' H G' H σ _ Q R' ?_
  generalize m (env.map frzC) = r at q
  cases r with
  | ok d e =>
    intro G2 H2 R2 s2 l xs O
    dsimp only at q
    split at q
    · rename_i hs
      refine q G H2 (R.grow ⟨Same.refl G, R2.gr.hh, fun a u z => R2.gr.hh a u (R.gh a u z), fun _ _ z => .inl z⟩) (Same.refl G) l xs ⟨O.at_, R.gh.free O.h0, R.gr.hh.free O.h0, fun j es e1 e2 => ?_, O.rps.scal hs⟩
      obtain ⟨m', ys, em, hm, _⟩ := R.ow e1
      rw [em] at e2
      cases e2
      rw [O.h0] at hm
      cases hm
    · exact q.elim
  | exc x e => exact q.elim
  | bad => exact q.elim
end

/-! ### statements -/
section
variable {X : Cx} {W : WX} {G0 H0 G H : Hp} {σ : L2.St} {env : En}
def PostS (X : Cx) (W : WX) (G0 H0 Gs : Hp) (r : Out) (Dn : Ends) : Prop :=
  match r with
  | .nx env => ∀ σ G H, RepS X.K G0 H0 G H σ env → Same Gs G → Dn.nx σ H
  | .bk env => ∀ σ G H, RepS X.K G0 H0 G H σ env → Same Gs G → Dn.bk σ H
  | .ct env => ∀ σ G H, RepS X.K G0 H0 G H σ env → Same Gs G → Dn.ct σ H
  | .rt (.sh d) env => ∀ σ G H v, RepS X.K G0 H0 G H σ env → Rp X.K G v d → Dn.rt v H
  | .rt (.ow ds) env => ∀ σ G H l xs, RepS X.K G0 H0 G H σ env → H l = some (.lst xs) → G l = none → H0 l = none → Rps X.K G xs ds → Dn.rt (.ref l) H
  | .exc x env => ∀ σ G H c od, RepS X.K G0 H0 G H σ env → Same Gs G → ExcR X.K X.mg G H x c od → W c od σ H
  | .bad => False
theorem PostS.mono {Gs Gt : Hp} {r : Out} {Dn : Ends} (h : PostS X W G0 H0 Gs r Dn) (e : Same Gs Gt) : PostS X W G0 H0 Gt r Dn := by
  cases r with
  | nx env => exact fun σ G H R s => h σ G H R (e.trans s)
  | bk env => exact fun σ G H R s => h σ G H R (e.trans s)
  | ct env => exact fun σ G H R s => h σ G H R (e.trans s)
  | rt x env =>
    cases x with
    | sh d => exact h
    | ow ds => exact h
  | exc x env => exact fun σ G H c od R s => h σ G H c od R (e.trans s)
  | bad => exact h
end
structure DS (X : Cx) (W : WX) (st : Stmt) (m : MS) : Prop where
  run : ∃ t : TS, PS X st t ∧ ∀ (G0 H0 G H : Hp) (σ : L2.St) (env : En) (Dn : Ends), RepS X.K G0 H0 G H σ env → PostS X W G0 H0 G (m env) Dn → t Dn σ H
structure DB (X : Cx) (W : WX) (st : List Stmt) (m : MS) : Prop where
  run : ∃ t : TS, PSs X st t ∧ ∀ (G0 H0 G H : Hp) (σ : L2.St) (env : En) (Dn : Ends), RepS X.K G0 H0 G H σ env → PostS X W G0 H0 G (m env) Dn → t Dn σ H
/-- a result, then a statement -/
def Res.so {α : Type} (r : Res α) (f : α → En → Out) : Out := match r with
  | .ok a e => f a e
  | .exc x e => .exc x e
  | .bad => .bad
@[simp] theorem Res.so_ok {α : Type} (a : α) (e : En) (f : α → En → Out) : (Res.ok a e).so f = f a e := rfl
@[simp] theorem Res.so_exc {α : Type} (x : Exc) (e : En) (f : α → En → Out) : (Res.exc x e).so f = .exc x e := rfl
@[simp] theorem Res.so_bad {α : Type} (f : α → En → Out) : (Res.bad : Res α).so f = .bad := rfl
theorem PostS.so {α : Type} {X : Cx} {W : WX} {G0 H0 G : Hp} {σ : L2.St} {r : Res α} {f : α → En → Out} {Dn : Ends} (h : PostS X W G0 H0 G (r.so f) Dn) :
    PostE X W G0 H0 σ G r (fun a e G2 _ => PostS X W G0 H0 G2 (f a e) Dn) := by
  cases r with
  | ok a e => exact fun G2 _ _ s => PostS.mono (r := f a e) h s
  | exc x e => exact fun c od G2 H2 R s q => h σ G2 H2 c od R s q
  | bad => exact h
section
variable {X : Cx} {W : WX} {st : Stmt} {rest : List Stmt} {m m2 : MS} {e : Expr} {pos : Pos}
@[simp] def sNx : MS := fun env => .nx env
@[simp] def sSeq (m m2 : MS) : MS := fun env => match m env with
  | .nx e => m2 e
  | o => o
theorem db_nil : DB X W [] sNx := ⟨_, pss_nil, fun G0 H0 G H σ env Dn R p => p σ G H R (Same.refl _)⟩
theorem db_one (h : DS X W st m) : DB X W [st] m := by
  obtain ⟨t, p, k⟩ := h.run
  exact ⟨t, pss_one p, k⟩
theorem db_cons (h : DS X W st m) (h2 : DB X W rest m2) : DB X W (st :: rest) (sSeq m m2) := by
  obtain ⟨t, p, k⟩ := h.run
  obtain ⟨u, p2, k2⟩ := h2.run
  refine ⟨_, pss_cons p p2, fun G0 H0 G H σ env Dn R q => ?_⟩
  refine k G0 H0 G H σ env _ R ?_
  unfold sSeq at q
  generalize m env = r at q
  cases r with
  | nx e1 => exact fun σ1 G1 H1 R1 s1 => k2 G0 H0 G1 H1 σ1 e1 Dn R1 (PostS.mono (r := m2 e1) q s1)
  | rt x e1 =>
    cases x with
    | sh d => exact q
    | ow ds => exact q
  | bk e1 => exact q
  | ct e1 => exact q
  | exc x e1 => exact q
  | bad => exact q
theorem ds_pass : DS X W (.Pass pos) sNx := ⟨_, ps_pass, fun G0 H0 G H σ env Dn R p => p σ G H R (Same.refl _)⟩
theorem ds_break : DS X W (.Break pos) (fun env => .bk env) := ⟨_, ps_break, fun G0 H0 G H σ env Dn R p => p σ G H R (Same.refl _)⟩
theorem ds_continue : DS X W (.Continue pos) (fun env => .ct env) := ⟨_, ps_continue, fun G0 H0 G H σ env Dn R p => p σ G H R (Same.refl _)⟩
/-- name = e, shared -/
@[simp] def sSet (i : Nat) (m : ME) : MS := fun env => (m env).so fun d e => .nx (e.set i (.sh d))
@[simp] def sSetO (i : Nat) (m : MA) : MS := fun env => (m env).so fun ds e => .nx (e.set i (.ow ds))
theorem ds_set {i : Nat} {tg : Expr} {m : ME} (h : DE X W e m) (hp : ∀ t, PE X e t → PS X (.Assign [tg] e pos) (tAsg t (gName i))) : DS X W (.Assign [tg] e pos) (sSet i m) := by
  obtain ⟨t, p, k⟩ := h.run
  refine ⟨_, hp t p, fun G0 H0 G H σ env Dn R q => ?_⟩
  exact k G0 H0 G H σ env _ R ((PostS.so q).imp fun d e1 G1 H1 R1 s1 q1 v rv => q1 _ G1 H1 (R1.setSh rv) (Same.refl _))
theorem ds_setO {i : Nat} {tg : Expr} {m : MA} (h : DO X W e m) (hp : ∀ t, PE X e t → PS X (.Assign [tg] e pos) (tAsg t (gName i))) : DS X W (.Assign [tg] e pos) (sSetO i m) := by
  obtain ⟨t, p, k⟩ := h.run
  refine ⟨_, hp t p, fun G0 H0 G H σ env Dn R q => ?_⟩
  exact k G0 H0 G H σ env _ R ((PostS.so q).imp fun ds e1 G1 H1 R1 s1 q1 l xs O => q1 _ G1 H1 (R1.setOw O.at_ O.gl O.h0 O.rps fun j es _ => O.ne j es) (Same.refl _))
/-- return -/
@[simp] def sRet (m : ME) : MS := fun env => (m env).so fun d e => .rt (.sh d) e
@[simp] def sRetO (m : MA) : MS := fun env => (m env).so fun ds e => .rt (.ow ds) e
theorem ds_ret {m : ME} (h : DE X W e m) : DS X W (.Return (some e) pos) (sRet m) := by
  obtain ⟨t, p, k⟩ := h.run
  refine ⟨_, ps_ret p, fun G0 H0 G H σ env Dn R q => ?_⟩
  exact k G0 H0 G H σ env _ R ((PostS.so q).imp fun d e1 G1 H1 R1 s1 q1 v rv => q1 σ G1 H1 v R1 rv)
theorem ds_retO {m : MA} (h : DO X W e m) : DS X W (.Return (some e) pos) (sRetO m) := by
  obtain ⟨t, p, k⟩ := h.run
  refine ⟨_, ps_ret p, fun G0 H0 G H σ env Dn R q => ?_⟩
  exact k G0 H0 G H σ env _ R ((PostS.so q).imp fun ds e1 G1 H1 R1 s1 q1 l xs O => q1 σ G1 H1 l xs R1 O.at_ O.gl O.h0 O.rps)
/-- return of a slot's own list -/
@[simp] def sRetV (i : Nat) : MS := fun env => match env[i]? with
  | some (.ow ds) => .rt (.ow ds) env
  | _ => .bad
theorem ds_retV {i : Nat} (h : PE X e (tVar i)) : DS X W (.Return (some e) pos) (sRetV i) := by
  refine ⟨_, ps_ret h, fun G0 H0 G H σ env Dn R q => ?_⟩
  unfold sRetV at q
  split at q
  · rename_i ds e1
    obtain ⟨l, xs, el, hl, gl, h0, r⟩ := R.ow e1
    exact ⟨_, el, q σ G H l xs R hl gl h0 r⟩
  · exact q.elim
theorem ds_retN : DS X W (.Return none pos) (fun env => .rt (.sh .non) env) := ⟨_, ps_retN, fun G0 H0 G H σ env Dn R p => p σ G H _ R .non⟩
/-- if -/
@[simp] def sIf (t : MT) (m m2 : MS) : MS := fun env => (t env).so fun b e => if b = true then m e else m2 e
theorem ds_if {c : Expr} {a b : List Stmt} {t : MT} (hc : DT X W c t) (ha : DB X W a m) (hb : DB X W b m2) : DS X W (.If c a b pos) (sIf t m m2) := by
  obtain ⟨tc, pc, kc⟩ := hc.run
  obtain ⟨ta, pa, ka⟩ := ha.run
  obtain ⟨tb, pb, kb⟩ := hb.run
  refine ⟨_, ps_if pc pa pb, fun G0 H0 G H σ env Dn R q => ?_⟩
  refine kc G0 H0 G H σ env _ R ((PostS.so q).imp fun x e1 G1 H1 R1 s1 q1 => ?_)
  cases x with
  | true => exact ka G0 H0 G1 H1 σ e1 Dn R1 q1
  | false => exact kb G0 H0 G1 H1 σ e1 Dn R1 q1
/-- ahead of a statement a slot is frozen -/
theorem ds_frz (i : Nat) (h : DS X W st m) : DS X W st (fun env => m (frz i env)) := by
  obtain ⟨t, p, k⟩ := h.run
  refine ⟨t, p, fun G0 H0 G H σ env Dn R q => ?_⟩
  obtain ⟨G', sg, R'⟩ := R.frz i
  exact k G0 H0 G' H σ _ Dn R' (q.mono sg)
/-- an expression whose value is dropped -/
@[simp] def sDrop (m : ME) : MS := fun env => (m env).so fun _ e => .nx e
theorem ds_expr {m : ME} (h : DE X W e m) (hs : swapsWith e none pos.line X.env = pure false := by rfl) : DS X W (.Expr e pos) (sDrop m) := by
  obtain ⟨t, p, k⟩ := h.run
  refine ⟨_, ps_expr p hs, fun G0 H0 G H σ env Dn R q => ?_⟩
  refine k G0 H0 G H σ env _ R ((PostS.so q).imp fun d e1 G1 H1 R1 s1 q1 v rv => q1 σ G1 H1 R1 (Same.refl _))
/-- xs.append(e), xs a slot's own list -/
@[simp] def sApp (i : Nat) (m : ME) : MS := fun env => (m env).so fun d e => match e[i]? with
  | some (.ow ds) => if ds.length < sizeLine then .nx (e.set i (.ow (ds ++ [d]))) else .bad
  | _ => .bad
theorem ds_app {i : Nat} {o : Expr} {m : ME} (h : DE X W e m) (hp : ∀ t, PE X e t → PS X st (tDrop (tBM X.K "list" rAppend (tVar i) (tCons t tNil)))) : DS X W st (fun env => match env[i]? with
    | some (.ow _) => sApp i m env
    | _ => .bad) := by
  obtain ⟨t, p, k⟩ := h.run
  refine ⟨_, hp t p, fun G0 H0 G H σ env Dn R q => ?_⟩
  split at q
  · rename_i ds0 e0
    obtain ⟨l, xs0, el, hl0, gl0, h00, r0⟩ := R.ow e0
    refine ⟨.ref l, el, .inl ⟨rfl, xs0, .inl (.inl hl0)⟩, ?_⟩
    refine k G0 H0 G H σ env _ R ((PostS.so q).imp fun d e1 G1 H1 R1 s1 q1 v rv => ?_)
    split at q1
    · rename_i ds e2
      obtain ⟨l1, xs, el1, hl, gl, h0, r⟩ := R1.ow e2
      rw [el] at el1
      cases el1
      split at q1
      · rename_i hz
        refine ⟨l, xs, v, rfl, rfl, hl, by rw [r.length]; exact hz, ?_⟩
        exact q1 σ G1 _ (R1.mut e2 el ⟨xs, hl⟩ gl h0 (r.append (Rps.one rv))) (Same.refl _)
      · exact q1.elim
    · exact q1.elim
  · exact q.elim
end
end Nm
end

section
set_option Elab.async false
set_option linter.all false
set_option maxRecDepth 100000
set_option maxHeartbeats 1000000
namespace Nm
open PySem PySem.Spec PyProof.Rows L2

/-! ### targets -/
/-- ix: the slots that are set -/
structure DG (X : Cx) (tg : Expr) (ix : List Nat) (g : D → En → Option En) : Prop where
  run : ∃ t : TG, PG X tg t ∧ ∀ (G0 H0 G H : Hp) (σ : L2.St) (env env' : En) (v : V) (d : D) (Q : L2.St → Hp → Prop), RepS X.K G0 H0 G H σ env → Rp X.K G v d → g d env = some env' →
    (∀ σ' : L2.St, RepS X.K G0 H0 G H σ' env' → (∀ vs : List Nat, (∀ i ∈ ix, i ∈ vs) → wipe σ' vs = wipe σ vs) → Q σ' H) → t v σ H Q
structure DGs (X : Cx) (tg : List Expr) (ix : List Nat) (g : List D → En → Option En) : Prop where
  run : ∃ t : TGs, PGs X tg t ∧ ∀ (G0 H0 G H : Hp) (σ : L2.St) (env env' : En) (v : List V) (d : List D) (Q : L2.St → Hp → Prop), RepS X.K G0 H0 G H σ env → Rps X.K G v d → g d env = some env' →
    (∀ σ' : L2.St, RepS X.K G0 H0 G H σ' env' → (∀ vs : List Nat, (∀ i ∈ ix, i ∈ vs) → wipe σ' vs = wipe σ vs) → Q σ' H) → t v σ H Q
theorem wipe_set (i : Nat) (x : Option V) : ∀ (vs : List Nat) (σ : L2.St), (i ∈ vs → wipe (σ.set i x) vs = wipe σ vs) ∧ (i ∉ vs → wipe (σ.set i x) vs = (wipe σ vs).set i x)
  | [], σ => ⟨fun h => (by simp at h), fun _ => rfl⟩
  | v :: vs, σ => by
    have ih := wipe_set i x vs σ
    constructor
    · intro h
      show (wipe (σ.set i x) vs).set v none = (wipe σ vs).set v none
      by_cases hv : i ∈ vs
      · rw [ih.1 hv]
      · have e : i = v := by
          rcases List.mem_cons.mp h with e | e
          · exact e
          · exact absurd e hv
        rw [ih.2 hv, e, List.set_set]
    · intro h
      have h1 : i ≠ v := fun e => h (by rw [e]; exact List.mem_cons_self)
      have h2 : i ∉ vs := fun e => h (List.mem_cons_of_mem _ e)
      show (wipe (σ.set i x) vs).set v none = ((wipe σ vs).set v none).set i x
      rw [ih.2 h2, List.set_comm _ _ h1]
@[simp] def gNm (i : Nat) : D → En → Option En := fun d e => some (e.set i (.sh d))
@[simp] def gNil : List D → En → Option En := fun ds e => match ds with
  | [] => some e
  | _ => none
@[simp] def gCons (g : D → En → Option En) (gs : List D → En → Option En) : List D → En → Option En := fun ds e => match ds with
  | d :: r => (g d e).bind fun e1 => gs r e1
  | _ => none
@[simp] def gTp (n : Nat) (gs : List D → En → Option En) : D → En → Option En := fun d e => match d with
  | .tup ds => if ds.length = n then gs ds e else none
  | _ => none
section
variable {X : Cx} {W : WX} {tg : Expr} {tgs : List Expr} {pos : Pos}
theorem dg_name {i : Nat} (h : PG X tg (L2.gName i)) : DG X tg [i] (gNm i) := by
  refine ⟨_, h, fun G0 H0 G H σ env env' v d Q R r e k => ?_⟩
  cases e
  exact k _ (R.setSh r) fun vs hv => (wipe_set i (some v) vs σ).1 (hv i (by simp))
theorem dgs_nil : DGs X [] [] gNil := by
  refine ⟨_, pgs_nil, fun G0 H0 G H σ env env' v d Q R r e k => ?_⟩
  cases r with
  | nil =>
    cases e
    exact ⟨rfl, k σ R fun _ _ => rfl⟩
  | cons _ _ => cases e
theorem dgs_cons {ix jx : List Nat} {g : D → En → Option En} {gs : List D → En → Option En} (h : DG X tg ix g) (hs : DGs X tgs jx gs) (hc : PG X tg h.run.choose → PGs X tgs hs.run.choose → PGs X (tg :: tgs) (L2.gCons h.run.choose hs.run.choose)) : DGs X (tg :: tgs) (ix ++ jx) (gCons g gs) := by
  obtain ⟨p1, k1⟩ := h.run.choose_spec
  obtain ⟨p2, k2⟩ := hs.run.choose_spec
  refine ⟨_, hc p1 p2, fun G0 H0 G H σ env env' v d Q R r e k => ?_⟩
  cases r with
  | nil => cases e
  | @cons v0 vs d0 ds r0 rs =>
    refine ⟨v0, vs, rfl, ?_⟩
    have e : (g d0 env).bind (fun e1 => gs ds e1) = some env' := e
    cases q : g d0 env with
    | none =>
      rw [q] at e
      cases e
    | some e1 =>
      rw [q] at e
      refine k1 G0 H0 G H σ env e1 v0 d0 _ R r0 q fun σ1 R1 w1 => ?_
      refine k2 G0 H0 G H σ1 e1 env' vs ds Q R1 rs e fun σ2 R2 w2 => ?_
      exact k σ2 R2 fun us hu => (w2 us fun i hi => hu i (List.mem_append_right _ hi)).trans (w1 us fun i hi => hu i (List.mem_append_left _ hi))
theorem dg_tup {n : Nat} {kx : Nat} {ix : List Nat} {gs : List D → En → Option En} (hs : DGs X tgs ix gs) (hp : ∀ t, PGs X tgs t → PG X (.Tuple tgs kx pos) (L2.gTup X.K n t)) : DG X (.Tuple tgs kx pos) ix (gTp n gs) := by
  obtain ⟨t, p, k⟩ := hs.run
  refine ⟨_, hp t p, fun G0 H0 G H σ env env' v d Q R r e kk => ?_⟩
  cases r with
  | @tup a xs ds hx rs =>
    unfold gTp at e
    dsimp only at e
    split at e
    · rename_i hn
      exact ⟨a, xs, rfl, same_t R.gh hx, by rw [rs.length]; exact hn, k G0 H0 G H σ env env' xs ds Q R rs e kk⟩
    · cases e
  | _ => cases e

/-- an assignment to a target -/
@[simp] def sAsg (g : D → En → Option En) (m : ME) : MS := fun env => (m env).so fun d e => match g d e with
  | some e1 => .nx e1
  | none => .bad
theorem ds_asg {ix : List Nat} {g : D → En → Option En} {e : Expr} {m : ME} (hg : DG X tg ix g) (h : DE X W e m) (hp : ∀ t u, PE X e t → PG X tg u → PS X (.Assign [tg] e pos) (tAsg t u)) : DS X W (.Assign [tg] e pos) (sAsg g m) := by
  obtain ⟨t, p, k⟩ := h.run
  obtain ⟨u, p2, k2⟩ := hg.run
  refine ⟨_, hp t u p p2, fun G0 H0 G H σ env Dn R q => ?_⟩
  refine k G0 H0 G H σ env _ R ((PostS.so q).imp fun d e1 G1 H1 R1 s1 q1 v rv => ?_)
  cases z : g d e1 with
  | none =>
    rw [z] at q1
    exact q1.elim
  | some e2 =>
    rw [z] at q1
    exact k2 G0 H0 G1 H1 σ e1 e2 v d _ R1 rv z fun σ' R' _ => q1 σ' G1 H1 R' (Same.refl _)
/-- target = xs.pop(), xs a slot's own list -/
@[simp] def sPop (i : Nat) (g : D → En → Option En) : MS := fun env => match env[i]? with
  | some (.ow ds) => match ds.getLast? with
    | some d => match g d (env.set i (.ow ds.dropLast)) with
      | some e1 => .nx e1
      | none => .bad
    | none => .bad
  | _ => .bad
theorem ds_pop {i : Nat} {ix : List Nat} {g : D → En → Option En} {st : Stmt} (hg : DG X tg ix g) (hp : ∀ u, PG X tg u → PS X st (tAsg (tBM0 X.K "list" rPop (tVar i)) u)) : DS X W st (sPop i g) := by
  obtain ⟨u, p2, k2⟩ := hg.run
  refine ⟨_, hp u p2, fun G0 H0 G H σ env Dn R q => ?_⟩
  unfold sPop at q
  split at q
  · rename_i ds e0
    obtain ⟨l, xs, el, hl, gl, h0, r⟩ := R.ow e0
    cases hd : ds.getLast? with
    | none =>
      rw [hd] at q
      exact q.elim
    | some d =>
      rw [hd] at q
      dsimp only at q
      rw [List.getLast?_eq_getElem?] at hd
      obtain ⟨v, hv, rv⟩ := r.get hd
      refine ⟨.ref l, el, .inl ⟨rfl, xs, .inl (.inl hl)⟩, l, xs, v, rfl, rfl, hl, by rw [r.length]; exact hv, ?_⟩
      have R1 := R.mut e0 el ⟨xs, hl⟩ gl h0 r.dropLast
      cases z : g d (env.set i (.ow ds.dropLast)) with
      | none =>
        rw [z] at q
        exact q.elim
      | some e2 =>
        rw [z] at q
        exact k2 G0 H0 G _ σ _ e2 v d _ R1 rv z fun σ' R' _ => q σ' G _ R' (Same.refl _)
  · exact q.elim
/-- xs[e] = v, xs a slot's own list -/
@[simp] def sPut (i : Nat) (mv mi : ME) : MS := fun env => match env[i]? with
  | some (.ow _) => (mv env).so fun d e1 => (mi e1).so fun k e2 => match e2[i]?, k with
    | some (.ow ds), .int z => match ixN ds.length z with
      | some j => .nx (e2.set i (.ow (ds.set j d)))
      | none => .bad
    | _, _ => .bad
  | _ => .bad
theorem ds_put {i : Nat} {ei ev : Expr} {mv mi : ME} {st : Stmt} (hv : DE X W ev mv) (hi : DE X W ei mi) (hp : ∀ t u, PE X ev t → PE X ei u → PS X st (tAsg t (L2.gSub (tVar i) u rSetL))) : DS X W st (sPut i mv mi) := by
  obtain ⟨t, p, k⟩ := hv.run
  obtain ⟨u, p2, k2⟩ := hi.run
  refine ⟨_, hp t u p p2, fun G0 H0 G H σ env Dn R q => ?_⟩
  unfold sPut at q
  split at q
  · rename_i ds0 e0
    obtain ⟨l, xs0, el, hl0, gl0, h00, r0⟩ := R.ow e0
    refine k G0 H0 G H σ env _ R ((PostS.so q).imp fun d e1 G1 H1 R1 s1 q1 v rv => ?_)
    refine ⟨.ref l, el, ?_⟩
    refine k2 G0 H0 G1 H1 σ e1 _ R1 ((PostS.so q1).imp fun kd e2 G2 H2 R2 s2 q2 w rw' => ?_)
    split at q2
    · rename_i ds z hds
      cases rw' with
      | int z' =>
        obtain ⟨l1, xs, el1, hl, gl, h0, r⟩ := R2.ow hds
        rw [el] at el1
        cases el1
        split at q2
        · rename_i j hj
          exact ⟨l, xs, z, j, rfl, rfl, hl, by rw [r.length]; exact hj, q2 σ G2 _ (R2.mut hds el ⟨xs, hl⟩ gl h0 (r.set (rv.mono s2) j)) (Same.refl _)⟩
        · exact q2.elim
    · exact q2.elim
  · exact q.elim

/-! ### what is walked -/
def ItD (K : PySem.W.Frag) (G : Hp) (J : It) (items : List D) : Prop :=
  ∀ (G1 H1 : Hp), Same G G1 → Same G1 H1 → ∀ i : Nat,
    (∀ d, items[i]? = some d → J.go i H1 ∧ ∀ x H2, J.yld i H1 x H2 → ∃ G2, Gr G1 H1 G2 H2 ∧ Rp K G2 x d) ∧ (items.length ≤ i → J.stop i H1)
structure DI (X : Cx) (W : WX) (tg iter : Expr) (m : MA) : Prop where
  run : ∃ wi : TI, PI X tg iter wi ∧ ∀ (G0 H0 G H : Hp) (σ : L2.St) (env : En) (Rw : It → Hp → Prop), RepS X.K G0 H0 G H σ env →
    PostE X W G0 H0 σ G (m env) (fun ds _ G2 H2 => ∀ J, ItD X.K G2 J ds → Rw J H2) → wi σ H Rw
/-- the items of a list -/
@[simp] def mItems (m : ME) : MA := fun env => (m env).bind fun d e => match d with
  | .lst ds => .ok ds e
  | .fz ds => .ok ds e
  | _ => .bad
@[simp] def mItemsT (m : ME) : MA := fun env => (m env).bind fun d e => match d with
  | .tup ds => .ok ds e
  | _ => .bad
theorem itd_list {K : PySem.W.Frag} {G : Hp} {a : Addr} {xs : List V} {ds : List D} (h : SqL K G a xs) (r : Rps K G xs ds) : ItD K G (Itl K a) ds := fun G1 H1 s1 s2 i => by
  have h1 : SqL K H1 a xs := same_l s2 (same_l s1 h)
  refine ⟨fun d e => ?_, fun hi => ⟨xs, h1, by rw [r.length]; exact hi⟩⟩
  obtain ⟨v, hv, rv⟩ := r.get e
  exact ⟨⟨xs, v, h1, hv⟩, fun x H2 y => by
    obtain ⟨rfl, y⟩ := y
    have e2 := y xs h1
    rw [hv] at e2
    cases e2
    exact ⟨G1, Gr.refl s2, rv.mono s1⟩⟩
theorem itd_tup {K : PySem.W.Frag} {G : Hp} {a : Addr} {xs : List V} {ds : List D} (h : SqT K G a xs) (r : Rps K G xs ds) : ItD K G (Itt K a) ds := fun G1 H1 s1 s2 i => by
  have h1 : SqT K H1 a xs := same_t s2 (same_t s1 h)
  refine ⟨fun d e => ?_, fun hi => ⟨xs, h1, by rw [r.length]; exact hi⟩⟩
  obtain ⟨v, hv, rv⟩ := r.get e
  exact ⟨⟨xs, v, h1, hv⟩, fun x H2 y => by
    obtain ⟨rfl, y⟩ := y
    have e2 := y xs h1
    rw [hv] at e2
    cases e2
    exact ⟨G1, Gr.refl s2, rv.mono s1⟩⟩
theorem di_list {e : Expr} {m : ME} (h : DE X W e m) : DI X W tg e (mItems m) := by
  obtain ⟨t, p, k⟩ := h.run
  refine ⟨_, pi_list p, fun G0 H0 G H σ env Rw R q => ?_⟩
  refine k G0 H0 G H σ env _ R ((PostE.bind q).imp fun d e1 G1 H1 R1 s1 q1 v rv => ?_)
  cases rv with
  | @lst a xs ds hx rs => exact ⟨a, rfl, ⟨xs, .inl (.inl (R1.gh _ _ hx))⟩, q1 G1 H1 R1 (Same.refl _) _ (itd_list (.inl (.inl hx)) rs)⟩
  | @fz a xs ds hx rs => exact ⟨a, rfl, ⟨xs, same_l R1.gh hx⟩, q1 G1 H1 R1 (Same.refl _) _ (itd_list hx rs)⟩
  | _ => exact q1.elim
theorem di_tup {e : Expr} {m : ME} (h : DE X W e m) : DI X W tg e (mItemsT m) := by
  obtain ⟨t, p, k⟩ := h.run
  refine ⟨_, pi_tup p, fun G0 H0 G H σ env Rw R q => ?_⟩
  refine k G0 H0 G H σ env _ R ((PostE.bind q).imp fun d e1 G1 H1 R1 s1 q1 v rv => ?_)
  cases rv with
  | @tup a xs ds hx rs => exact ⟨a, rfl, ⟨xs, same_t R1.gh hx⟩, q1 G1 H1 R1 (Same.refl _) _ (itd_tup hx rs)⟩
  | _ => exact q1.elim
/-- lo, lo + 1, .. -/
def upto (lo : Int) (n : Nat) : List D := (List.range n).map fun i => .int (lo + (i : Nat))
theorem upto_get {lo : Int} {n i : Nat} {d : D} (h : (upto lo n)[i]? = some d) : i < n ∧ d = .int (lo + (i : Nat)) := by
  unfold upto at h
  rw [List.getElem?_map] at h
  by_cases hi : i < n
  · rw [List.getElem?_range hi] at h
    cases h
    exact ⟨hi, rfl⟩
  · rw [List.getElem?_eq_none (by rw [List.length_range]; omega)] at h
    cases h
theorem upto_len (lo : Int) (n : Nat) : (upto lo n).length = n := by simp [upto]
theorem itd_rng {K : PySem.W.Frag} {G : Hp} {lo : Int} {n : Nat} : ItD K G (Itr lo n) (upto lo n) := fun G1 H1 s1 s2 i => by
  refine ⟨fun d e => ?_, fun hi => by rw [upto_len] at hi; exact hi⟩
  obtain ⟨hi, rfl⟩ := upto_get e
  exact ⟨hi, fun x H2 y => by
    obtain ⟨rfl, rfl⟩ := y
    exact ⟨G1, Gr.refl s2, .int _⟩⟩
@[simp] def mRng1 (m : MA) : MA := fun env => (m env).bind fun ds e => match ds with
  | [.int j] => if inR j = true then .ok (upto 0 j.toNat) e else .bad
  | _ => .bad
@[simp] def mRng2 (m : MA) : MA := fun env => (m env).bind fun ds e => match ds with
  | [.int i, .int j] => if inR i = true ∧ inR j = true then .ok (upto i (j - i).toNat) e else .bad
  | _ => .bad
theorem di_rng1 {e : Expr} {es : List Expr} {m : MA} (h : DA X W es m) (hp : ∀ t, PA X es t → PI X tg e (iRng1 t)) : DI X W tg e (mRng1 m) := by
  obtain ⟨t, p, k⟩ := h.run
  refine ⟨_, hp t p, fun G0 H0 G H σ env Rw R q => ?_⟩
  refine k G0 H0 G H σ env _ R ((PostE.bind q).imp fun ds e1 G1 H1 R1 s1 q1 vs rs => ?_)
  split at q1
  · rename_i j
    cases rs with
    | cons r0 rs =>
      cases r0
      cases rs
      split at q1
      · rename_i hj
        have hj' := inR_ok hj
        exact ⟨j, rfl, hj'.1, hj'.2, q1 G1 H1 R1 (Same.refl _) _ itd_rng⟩
      · exact q1.elim
  · exact q1.elim
theorem di_rng2 {e : Expr} {es : List Expr} {m : MA} (h : DA X W es m) (hp : ∀ t, PA X es t → PI X tg e (iRng2 t)) : DI X W tg e (mRng2 m) := by
  obtain ⟨t, p, k⟩ := h.run
  refine ⟨_, hp t p, fun G0 H0 G H σ env Rw R q => ?_⟩
  refine k G0 H0 G H σ env _ R ((PostE.bind q).imp fun ds e1 G1 H1 R1 s1 q1 vs rs => ?_)
  split at q1
  · rename_i i j
    cases rs with
    | cons r0 rs =>
      cases r0
      cases rs with
      | cons r0 rs =>
        cases r0
        cases rs
        split at q1
        · rename_i hj
          have h1 := inR_ok hj.1
          have h2 := inR_ok hj.2
          exact ⟨i, j, rfl, ⟨h1.1, h1.2, h2.1, h2.2⟩, q1 G1 H1 R1 (Same.refl _) _ itd_rng⟩
        · exact q1.elim
  · exact q1.elim
/-- enumerate(xs) -/
def pairs (ds : List D) : List D := (List.range ds.length).map fun i => .tup [.int (i : Nat), ds.getD i .non]
theorem pairs_get {ds : List D} {i : Nat} {d : D} (h : (pairs ds)[i]? = some d) : ∃ x, ds[i]? = some x ∧ d = .tup [.int (i : Nat), x] := by
  unfold pairs at h
  rw [List.getElem?_map] at h
  by_cases hi : i < ds.length
  · rw [List.getElem?_range hi] at h
    cases h
    exact ⟨ds[i], List.getElem?_eq_getElem hi, by show D.tup [D.int (i : Nat), ds.getD i D.non] = _; rw [List.getD_eq_getElem?_getD, List.getElem?_eq_getElem hi]; rfl⟩
  · rw [List.getElem?_eq_none (by rw [List.length_range]; omega)] at h
    cases h
theorem itd_enum {K : PySem.W.Frag} {G : Hp} {a : Addr} {xs : List V} {ds : List D} (h : SqL K G a xs) (r : Rps K G xs ds) : ItD K G (Ite K a) (pairs ds) := fun G1 H1 s1 s2 i => by
  have h1 : SqL K H1 a xs := same_l s2 (same_l s1 h)
  refine ⟨fun d e => ?_, fun hi => ⟨xs, h1, by rw [r.length]; simpa [pairs] using hi⟩⟩
  obtain ⟨x, ex, rfl⟩ := pairs_get e
  obtain ⟨v, hv, rv⟩ := r.get ex
  exact ⟨⟨xs, v, h1, hv⟩, fun y H2 yy => by
    obtain ⟨T, x', rfl, hT, rfl, k⟩ := yy
    have e2 := k xs h1
    rw [hv] at e2
    cases e2
    exact ⟨_, Gr.new s2 hT, .tup (.inl (.inl upd_same)) (.cons (.int _) (.cons ((rv.mono s1).mono (same_upd (s2.free hT))) .nil))⟩⟩
@[simp] def mEnum (m : MA) : MA := fun env => (m env).bind fun ds e => match ds with
  | [.lst xs] => .ok (pairs xs) e
  | _ => .bad
theorem di_enum {e : Expr} {es : List Expr} {m : MA} (h : DA X W es m) (hp : ∀ t, PA X es t → PI X tg e (iEnum X.K t)) : DI X W tg e (mEnum m) := by
  obtain ⟨t, p, k⟩ := h.run
  refine ⟨_, hp t p, fun G0 H0 G H σ env Rw R q => ?_⟩
  refine k G0 H0 G H σ env _ R ((PostE.bind q).imp fun ds e1 G1 H1 R1 s1 q1 vs rs => ?_)
  split at q1
  · rename_i ds
    cases rs with
    | cons r0 rs =>
      cases rs
      cases r0 with
      | @lst a xs _ hx r => exact ⟨a, xs, rfl, .inl (.inl (R1.gh _ _ hx)), q1 G1 H1 R1 (Same.refl _) _ (itd_enum (.inl (.inl hx)) r)⟩
  · exact q1.elim

/-! ### for -/
def runFor (g : D → En → Option En) (b : MS) : List D → MS
  | [], e => .nx e
  | d :: ds, e => match g d e with
    | none => .bad
    | some e1 => match b e1 with
      | .nx e2 => runFor g b ds e2
      | .ct e2 => runFor g b ds e2
      | .bk e2 => .nx e2
      | o => o
@[simp] def sFor (g : D → En → Option En) (mi : MA) (b : MS) : MS := fun env => (mi env).so fun ds e => runFor g b ds e
theorem ds_for {ix : List Nat} {g : D → En → Option En} {iter : Expr} {body : List Stmt} {mi : MA} {b : MS} (hi : DI X W tg iter mi) (hg : DG X tg ix g) (hb : DB X W body b)
    (hp : ∀ wi u t, PI X tg iter wi → PG X tg u → PSs X body t → PS X (.For tg iter body [] pos) (tFor wi u t)) : DS X W (.For tg iter body [] pos) (sFor g mi b) := by
  obtain ⟨wi, p, k⟩ := hi.run
  obtain ⟨u, p2, k2⟩ := hg.run
  obtain ⟨t, p3, k3⟩ := hb.run
  refine ⟨_, hp wi u t p p2 p3, fun G0 H0 G H σ env Dn R q => ?_⟩
  refine k G0 H0 G H σ env _ R ((PostS.so q).imp fun items e1 G1 H1 R1 s1 q1 J hJ => ?_)
  refine ⟨fun i n σ' H' => ∃ G' e', Same G1 G' ∧ RepS X.K G0 H0 G' H' σ' e' ∧ i + n = items.length ∧ PostS X W G0 H0 G' (runFor g b (items.drop i) e') Dn, ⟨items.length, G1, e1, Same.refl _, R1, by omega, q1⟩, ?_⟩
  rintro i n σ' H' ⟨G', e', sG, R', hn, pq⟩
  have it := hJ G' H' sG R'.gh i
  by_cases hlt : i < items.length
  · obtain ⟨go, yl⟩ := it.1 items[i] (List.getElem?_eq_getElem hlt)
    refine .inr ⟨go, fun σ2 H2 => ∃ G2 e2, Same G1 G2 ∧ RepS X.K G0 H0 G2 H2 σ2 e2 ∧ PostS X W G0 H0 G2 (runFor g b (items.drop (i + 1)) e2) Dn, fun σ2 H2 ⟨G2, e2, h1, h2, h3⟩ => ⟨n - 1, by omega, G2, e2, h1, h2, by omega, h3⟩, fun x H2 y => ?_⟩
    obtain ⟨G2, gr, rx⟩ := yl x H2 y
    rw [List.drop_eq_getElem_cons hlt] at pq
    unfold runFor at pq
    cases z : g items[i] e' with
    | none =>
      rw [z] at pq
      exact pq.elim
    | some e2 =>
      rw [z] at pq
      dsimp only at pq
      refine k2 G0 H0 G2 H2 σ' e' e2 x _ _ (R'.grow gr) rx z fun σ3 R3 _ => ?_
      refine k3 G0 H0 G2 H2 σ3 e2 _ R3 ?_
      have sG2 : Same G1 G2 := sG.trans gr.gg
      generalize b e2 = r at pq
      cases r with
      | nx e3 => exact fun σ4 G4 H4 R4 s4 => ⟨G4, e3, sG2.trans s4, R4, PostS.mono (r := runFor g b _ e3) pq (gr.gg.trans s4)⟩
      | ct e3 => exact fun σ4 G4 H4 R4 s4 => ⟨G4, e3, sG2.trans s4, R4, PostS.mono (r := runFor g b _ e3) pq (gr.gg.trans s4)⟩
      | bk e3 => exact fun σ4 G4 H4 R4 s4 => pq σ4 G4 H4 R4 (gr.gg.trans s4)
      | rt x e3 =>
        cases x with
        | sh d => exact pq
        | ow ds => exact pq
      | exc x e3 => exact fun σ4 G4 H4 c od R4 s4 => pq σ4 G4 H4 c od R4 (gr.gg.trans s4)
      | bad => exact pq.elim
  · refine .inl ⟨it.2 (by omega), ?_⟩
    rw [List.drop_eq_nil_of_le (by omega)] at pq
    exact pq σ' G' H' R' (Same.refl _)

/-! ### while -/
def runWhile (t : MT) (b : MS) : Nat → MS
  | 0, _ => .bad
  | n + 1, e => (t e).so fun x e1 => if x = true then match b e1 with
      | .nx e2 => runWhile t b n e2
      | .ct e2 => runWhile t b n e2
      | .bk e2 => .nx e2
      | o => o
    else .nx e1
/-- the fuel of a while -/
def fuel : Nat := 2 ^ 70
def sWhile (t : MT) (b : MS) : MS := fun env => runWhile t b fuel env
theorem ds_while {c : Expr} {body : List Stmt} {t : MT} {b : MS} (hc : DT X W c t) (hb : DB X W body b) (hp : ∀ u v, PT X c u → PSs X body v → PS X (.While c body [] pos) (tWhile u v)) : DS X W (.While c body [] pos) (sWhile t b) := by
  obtain ⟨tc, p, k⟩ := hc.run
  obtain ⟨u, p2, k2⟩ := hb.run
  refine ⟨_, hp tc u p p2, fun G0 H0 G H σ env Dn R q => ?_⟩
  unfold sWhile at q
  generalize fuel = N at q
  refine ⟨fun n σ' H' => ∃ G' e', RepS X.K G0 H0 G' H' σ' e' ∧ PostS X W G0 H0 G' (runWhile t b n e') Dn, ⟨N, G, env, R, q⟩, ?_⟩
  rintro n σ' H' ⟨G', e', R', pq⟩
  cases n with
  | zero => exact pq.elim
  | succ n =>
    unfold runWhile at pq
    refine k G0 H0 G' H' σ' e' _ R' ((PostS.so pq).imp fun x e1 G1 H1 R1 s1 q1 => ?_)
    cases x with
    | false => exact q1 σ' G1 H1 R1 (Same.refl _)
    | true =>
      rw [if_pos rfl] at q1
      refine ⟨fun σ2 H2 => ∃ G2 e2, RepS X.K G0 H0 G2 H2 σ2 e2 ∧ PostS X W G0 H0 G2 (runWhile t b n e2) Dn, fun σ2 H2 ⟨G2, e2, h1, h2⟩ => ⟨n, by omega, G2, e2, h1, h2⟩, ?_⟩
      refine k2 G0 H0 G1 H1 σ' e1 _ R1 ?_
      generalize b e1 = r at q1
      cases r with
      | nx e3 => exact fun σ4 G4 H4 R4 s4 => ⟨G4, e3, R4, PostS.mono (r := runWhile t b n e3) q1 s4⟩
      | ct e3 => exact fun σ4 G4 H4 R4 s4 => ⟨G4, e3, R4, PostS.mono (r := runWhile t b n e3) q1 s4⟩
      | bk e3 => exact fun σ4 G4 H4 R4 s4 => q1 σ4 G4 H4 R4 s4
      | rt x e3 =>
        cases x with
        | sh d => exact q1
        | ow ds => exact q1
      | exc x e3 => exact q1
      | bad => exact q1.elim
end
end Nm
end

section
set_option Elab.async false
set_option linter.all false
set_option maxRecDepth 100000
set_option maxHeartbeats 1000000
namespace Nm
open PySem PySem.Spec PyProof.Rows L2

/-! ### comprehensions: slots forgotten and given back -/
@[simp] def wipeE (e : En) : List Nat → En
  | [] => e
  | v :: vs => (wipeE e vs).set v .no
@[simp] def restE (e0 e : En) : List Nat → En
  | [] => e
  | v :: vs => (restE e0 e vs).set v (e0.getD v .no)
def restS (σ τ : L2.St) : List Nat → L2.St
  | [] => τ
  | v :: vs => (restS σ τ vs).set v (σ.getD v none)
theorem restS_get (σ τ : L2.St) (i : Nat) : ∀ vs : List Nat, (restS σ τ vs)[i]? = if i ∈ vs ∧ i < τ.length then some (σ.getD i none) else τ[i]?
  | [] => by simp [restS]
  | v :: vs => by
    have ih := restS_get σ τ i vs
    have hl : ∀ us : List Nat, (restS σ τ us).length = τ.length := fun us => by
      induction us with
      | nil => rfl
      | cons u us ih => simp [restS, ih]
    unfold restS
    by_cases hv : v = i
    · subst hv
      by_cases hi : v < τ.length
      · rw [List.getElem?_set_self (by rw [hl]; exact hi), if_pos ⟨List.mem_cons_self, hi⟩]
      · rw [List.getElem?_eq_none (by rw [List.length_set, hl]; omega), if_neg (by rintro ⟨_, h⟩; exact hi h), List.getElem?_eq_none (by omega)]
    · rw [List.getElem?_set_ne hv, ih]
      by_cases hm : i ∈ vs
      · simp [hm]
      · have : ¬ i ∈ v :: vs := fun h => by
          rcases List.mem_cons.mp h with h | h
          · exact hv h.symm
          · exact hm h
        rw [if_neg (fun h => hm h.1), if_neg (fun h => this h.1)]
theorem restS_wipe (σ : L2.St) (vs : List Nat) : restS σ (wipe σ vs) vs = σ := by
  refine List.ext_getElem? fun i => ?_
  rw [restS_get, wipe_length]
  by_cases h : i ∈ vs ∧ i < σ.length
  · rw [if_pos h, List.getD_eq_getElem?_getD, List.getElem?_eq_getElem h.2]
    rfl
  · rw [if_neg h]
    by_cases hm : i ∈ vs
    · have hi : ¬ i < σ.length := fun z => h ⟨hm, z⟩
      rw [List.getElem?_eq_none (by rw [wipe_length]; omega), List.getElem?_eq_none (by omega)]
    · exact wipe_out hm
theorem wipe_idem (σ : L2.St) : ∀ vs : List Nat, wipe (wipe σ vs) vs = wipe σ vs := by
  have key : ∀ (us vs : List Nat), (∀ u ∈ us, u ∈ vs) → wipe (wipe σ us) vs = wipe σ vs := by
    intro us
    induction us with
    | nil => intro vs _; rfl
    | cons u us ih =>
      intro vs h
      show wipe ((wipe σ us).set u none) vs = wipe σ vs
      rw [(wipe_set u none vs (wipe σ us)).1 (h u List.mem_cons_self)]
      exact ih vs fun z hz => h z (List.mem_cons_of_mem _ hz)
  exact fun vs => key vs vs fun _ h => h
section
variable {K : PySem.W.Frag} {G0 H0 G H G1 H1 : Hp} {σ τ : List (Option V)} {env e0 e : En} {l : Addr} {o o' : HO}
theorem RepS.wipe (R : RepS K G0 H0 G H σ env) : ∀ vs : List Nat, RepS K G0 H0 G H (L2.wipe σ vs) (wipeE env vs)
  | [] => R
  | v :: vs => (RepS.wipe R vs).setNo
/-- the cells at vs hold no list of their own -/
@[simp] def noOw (e : En) (vs : List Nat) : Bool := vs.all fun i => match e[i]? with
  | some (.ow _) => false
  | _ => true
theorem RepS.rest (R0 : RepS K G0 H0 G1 H1 σ e0) (sG : Same G1 G) (R : RepS K G0 H0 G H τ e) (hl : τ.length = σ.length) : ∀ vs : List Nat, noOw e0 vs = true → RepS K G0 H0 G H (restS σ τ vs) (restE e0 e vs)
  | [], _ => R
  | v :: vs, h => by
    unfold noOw at h
    rw [List.all_cons, Bool.and_eq_true] at h
    have ih := RepS.rest R0 sG R hl vs h.2
    show RepS K G0 H0 G H ((restS σ τ vs).set v (σ.getD v none)) ((restE e0 e vs).set v (e0.getD v .no))
    have h1 := h.1
    rw [List.getD_eq_getElem?_getD, List.getD_eq_getElem?_getD]
    cases q : e0[v]? with
    | none => exact ih.setNo
    | some c =>
      rw [q] at h1
      cases c with
      | no => exact ih.setNo
      | sh d =>
        obtain ⟨x, ex, rx⟩ := R0.sh q
        rw [ex]
        exact ih.setSh (rx.mono sG)
      | ow ds => exact absurd (show false = true from h1) Bool.false_ne_true
/-- a new object beside -/
theorem RepS.frame (R : RepS K G0 H0 G H σ env) (h : H l = none) : RepS K G0 (upd H0 l o) G (upd H l o) σ env := by
  refine ⟨⟨R.gr.gg, same_upd2 R.gr.hh h, fun a u q => ?_, fun a u q => ?_⟩, R.len, fun i c e1 => ?_, R.dis⟩
  · rw [upd_ne (ne_of_none (R.gh a u q) h)]
    exact R.gh a u q
  · rw [upd_ne (ne_of_none (R.gh a u q) h)]
    exact R.gr.nw a u q
  · obtain ⟨w, h1, h2⟩ := R.rep i c e1
    refine ⟨w, h1, ?_⟩
    cases c with
    | no => trivial
    | sh d => exact h2
    | ow fs =>
      obtain ⟨m, ys, rfl, hm, gm, hm0, rm⟩ := h2
      have nm : m ≠ l := ne_of_none hm h
      exact ⟨m, ys, rfl, by rw [upd_ne nm]; exact hm, gm, by rw [upd_ne nm]; exact hm0, rm⟩
theorem RepS.framed (R : RepS K G0 (upd H0 l o) G H σ env) (g0 : G0 l = none) : H l = some o ∧ G l = none ∧ ∀ (j : Nat) (es : List D), env[j]? = some (.ow es) → σ[j]? ≠ some (some (.ref l)) := by
  refine ⟨R.gr.hh l o upd_same, ?_, fun j es e1 e2 => ?_⟩
  · cases q : G l with
    | none => rfl
    | some u =>
      rcases R.gr.nw l u q with z | z
      · rw [g0] at z
        cases z
      · rw [upd_same] at z
        cases z
  · obtain ⟨m, xs, em, hm, gm, h0, _⟩ := R.ow e1
    rw [em] at e2
    cases e2
    rw [upd_same] at h0
    cases h0
theorem RepS.reframe (R : RepS K G0 (upd H0 l o) G H σ env) (g0 : G0 l = none) (h0 : H0 l = none) : RepS K G0 (upd H0 l o') G (upd H l o') σ env := by
  obtain ⟨hl, gl, ne⟩ := R.framed g0
  have nG : ∀ {a : Addr} {u : HO}, G a = some u → a ≠ l := fun {a u} q z => by
    rw [z, gl] at q
    cases q
  refine ⟨⟨R.gr.gg, fun a u q => ?_, fun a u q => ?_, fun a u q => ?_⟩, R.len, fun i c e1 => ?_, R.dis⟩
  · by_cases na : a = l
    · subst na
      rw [upd_same] at q ⊢
      exact q
    · rw [upd_ne na] at q ⊢
      exact R.gr.hh a u (by rw [upd_ne na]; exact q)
  · rw [upd_ne (nG q)]
    exact R.gh a u q
  · rw [upd_ne (nG q)]
    rcases R.gr.nw a u q with z | z
    · exact .inl z
    · rw [upd_ne (nG q)] at z
      exact .inr z
  · obtain ⟨w, h1, h2⟩ := R.rep i c e1
    refine ⟨w, h1, ?_⟩
    cases c with
    | no => trivial
    | sh d => exact h2
    | ow fs =>
      obtain ⟨m, ys, rfl, hm, gm, hm0, rm⟩ := h2
      have nm : m ≠ l := fun z => ne i fs e1 (by rw [h1, z])
      exact ⟨m, ys, rfl, by rw [upd_ne nm]; exact hm, gm, by rw [upd_ne nm] at hm0 ⊢; exact hm0, rm⟩
theorem RepS.unframe (R : RepS K G0 (upd H0 l o) G H σ env) (g0 : G0 l = none) (h0 : H0 l = none) : RepS K G0 H0 G H σ env := by
  obtain ⟨hl, gl, ne⟩ := R.framed g0
  refine ⟨⟨R.gr.gg, fun a u q => R.gr.hh a u ?_, R.gh, fun a u q => ?_⟩, R.len, fun i c e1 => ?_, R.dis⟩
  · rw [upd_ne (ne_of_none q h0)]
    exact q
  · rcases R.gr.nw a u q with z | z
    · exact .inl z
    · by_cases na : a = l
      · subst na
        exact .inr h0
      · rw [upd_ne na] at z
        exact .inr z
  · obtain ⟨w, h1, h2⟩ := R.rep i c e1
    refine ⟨w, h1, ?_⟩
    cases c with
    | no => trivial
    | sh d => exact h2
    | ow fs =>
      obtain ⟨m, ys, rfl, hm, gm, hm0, rm⟩ := h2
      have nm : m ≠ l := fun z => ne i fs e1 (by rw [h1, z])
      exact ⟨m, ys, rfl, hm, gm, by rw [upd_ne nm] at hm0; exact hm0, rm⟩
end

/-! ### comprehensions -/
def runLc (g : D → En → Option En) (t : MT) (el : ME) (vs : List Nat) : List D → En → Res (List D)
  | [], e => .ok [] e
  | d :: ds, e => match g d e with
    | none => .bad
    | some e1 => match t e1 with
      | .ok b e2 => if b = true then match el e2 with
          | .ok y e3 => (runLc g t el vs ds (wipeE e3 vs)).bind fun ys e4 => .ok (y :: ys) e4
          | _ => .bad
        else runLc g t el vs ds (wipeE e2 vs)
      | _ => .bad
@[simp] def mLc (g : D → En → Option En) (mi : MA) (t : MT) (el : ME) (vs : List Nat) : MA := fun env => (mi env).bind fun ds e =>
  if ds.length ≤ sizeLine ∧ noOw e vs = true then (runLc g t el vs ds (wipeE e vs)).bind fun ys e4 => .ok ys (restE e e4 vs) else .bad
def cG (X : Cx) (ix : List Nat) (g : D → En → Option En) : TG := fun v σ H Q => ∃ G0 H0 G env d env', RepS X.K G0 H0 G H σ env ∧ Rp X.K G v d ∧ g d env = some env' ∧
  ∀ σ' : L2.St, RepS X.K G0 H0 G H σ' env' → (∀ vs : List Nat, (∀ i ∈ ix, i ∈ vs) → wipe σ' vs = wipe σ vs) → Q σ' H
theorem DG.canon {X : Cx} {tg : Expr} {ix : List Nat} {g : D → En → Option En} (h : DG X tg ix g) : PG X tg (cG X ix g) := by
  obtain ⟨t, p, k⟩ := h.run
  exact ⟨fun pins s σ H v u Q I r ⟨G0, H0, G, env, d, env', R, rv, e, q⟩ => p.run pins s σ H v u Q I r (k G0 H0 G H σ env env' v d Q R rv e q)⟩
abbrev wF : WX := fun _ _ _ _ => False
structure DTs (X : Cx) (ifs : List Expr) (m : MT) : Prop where
  run : PTs X ifs (cT X wF m)
@[simp] def mYes : MT := fun env => .ok true env
theorem dts_nil {X : Cx} : DTs X [] mYes := ⟨⟨fun pins s σ H Q I ⟨G0, H0, G, env, R, q⟩ => (pts_nil (X := X)).run pins s σ H Q I (q G H R (Same.refl _))⟩⟩
theorem dts_one {X : Cx} {c : Expr} {m : MT} (h : DT X wF c m) : DTs X [c] m := ⟨pts_one h.canon⟩

section
variable {X : Cx} {W : WX} {tg iter elt : Expr} {ifs : List Expr} {ix : List Nat} {g : D → En → Option En} {mi : MA} {mt : MT} {el : ME}
theorem lc_read {wi : TI} {vs : List Nat} (hix : ∀ i ∈ ix, i ∈ vs)
    (k : ∀ (G0 H0 G H : Hp) (σ : L2.St) (env : En) (Rw : It → Hp → Prop), RepS X.K G0 H0 G H σ env → PostE X W G0 H0 σ G (mi env) (fun ds _ G2 H2 => ∀ J, ItD X.K G2 J ds → Rw J H2) → wi σ H Rw)
    (G0 H0 G H : Hp) (σ : L2.St) (env : En) (Q : VK) (R : RepS X.K G0 H0 G H σ env)
    (q : PostE X W G0 H0 σ G (mLc g mi mt el vs env) (fun ds env2 G2 H2 => ∀ l xs, Own X.K H0 G2 H2 σ env2 l xs ds → Q (.ref l) H2)) :
    tLc wi (cG X ix g) (cT X wF mt) (cE X wF el) vs σ H Q := by
  refine k G0 H0 G H σ env _ R ((PostE.bind q).imp fun items e1 G1 H1 R1 s1 q1 J hJ Dl hD => ?_)
  by_cases hc : items.length ≤ sizeLine ∧ noOw e1 vs = true
  case neg =>
    rw [if_neg hc] at q1
    exact q1.elim
  rw [if_pos hc] at q1
  have g1 : G1 Dl = none := R1.gh.free hD
  have g0 : G0 Dl = none := R1.gr.gg.free g1
  have h0 : H0 Dl = none := R1.gr.hh.free hD
  have Pdef : ∃ P : List D → En → Hp → Hp → Prop, P = (fun ds env2 G2 H2 => ∀ l xs, Own X.K H0 G2 H2 σ env2 l xs ds → Q (.ref l) H2) := ⟨_, rfl⟩
  obtain ⟨P, hP⟩ := Pdef
  rw [← hP] at q1
  refine ⟨fun i m H' => ∃ G' e' acc ds, Same G1 G' ∧ RepS X.K G0 (upd H0 Dl (.lst acc)) G' H' (wipe σ vs) e' ∧ i + m = items.length ∧ Rps X.K G' acc ds ∧ acc.length ≤ i ∧
    PostE X W G0 H0 σ G' ((runLc g mt el vs (items.drop i) e').bind fun ys e4 => .ok (ds ++ ys) (restE e1 e4 vs)) P,
    ⟨items.length, G1, _, [], [], Same.refl _, (R1.wipe vs).frame hD, by omega, .nil, Nat.le_refl _, q1⟩, ?_⟩
  rintro i m H' ⟨G', e', acc, ds, sG, R', hm, hr, hacc, pq⟩
  have it := hJ G' H' sG R'.gh i
  by_cases hlt : i < items.length
  · obtain ⟨go, yl⟩ := it.1 items[i] (List.getElem?_eq_getElem hlt)
    rw [List.drop_eq_getElem_cons hlt] at pq
    unfold runLc at pq
    refine .inr ⟨go, fun H5 => ∃ G5 e5 acc5 ds5, Same G1 G5 ∧ RepS X.K G0 (upd H0 Dl (.lst acc5)) G5 H5 (wipe σ vs) e5 ∧ Rps X.K G5 acc5 ds5 ∧ acc5.length ≤ i + 1 ∧
      PostE X W G0 H0 σ G5 ((runLc g mt el vs (items.drop (i + 1)) e5).bind fun ys e4 => .ok (ds5 ++ ys) (restE e1 e4 vs)) P,
      fun H5 ⟨G5, e5, acc5, ds5, a1, a2, a3, a4, a5⟩ => ⟨m - 1, by omega, G5, e5, acc5, ds5, a1, a2, by omega, a3, a4, a5⟩, fun x H2 y => ?_⟩
    obtain ⟨G2, gr, rx⟩ := yl x H2 y
    cases z : g items[i] e' with
    | none =>
      rw [z] at pq
      exact pq.elim
    | some e2 =>
      rw [z] at pq
      dsimp only at pq
      refine ⟨G0, _, G2, e', items[i], e2, R'.grow gr, rx, z, fun σ3 R3 hw => ?_⟩
      have hw' : wipe σ3 vs = wipe σ vs := (hw vs hix).trans (wipe_idem σ vs)
      refine ⟨hw', G0, _, G2, e2, R3, ?_⟩
      have sG2 : Same G1 G2 := sG.trans gr.gg
      cases z2 : mt e2 with
      | exc x e3 =>
        rw [z2] at pq
        exact pq.elim
      | bad =>
        rw [z2] at pq
        exact pq.elim
      | ok b e3 =>
        rw [z2] at pq
        dsimp only at pq
        intro G3 H3 R4 s4
        cases b with
        | false =>
          rw [if_neg Bool.false_ne_true] at pq ⊢
          refine ⟨G3, wipeE e3 vs, acc, ds, sG2.trans s4, ?_, hr.mono (gr.gg.trans s4), by omega, pq.mono (gr.gg.trans s4)⟩
          have R5 := R4.wipe vs
          rw [hw'] at R5
          exact R5
        | true =>
          rw [if_pos rfl] at pq ⊢
          cases z3 : el e3 with
          | exc x e4 =>
            rw [z3] at pq
            exact pq.elim
          | bad =>
            rw [z3] at pq
            exact pq.elim
          | ok yd e4 =>
            rw [z3] at pq
            dsimp only at pq
            refine ⟨G0, _, G3, e3, R4, ?_⟩
            rw [z3]
            intro G5 H5 R5 s5 v rv
            refine ⟨acc, (R5.framed g0).1, by omega, ?_⟩
            refine ⟨G5, wipeE e4 vs, acc ++ [v], ds ++ [yd], (sG2.trans s4).trans s5, ?_, (hr.mono ((gr.gg.trans s4).trans s5)).append (Rps.one rv), by simp; omega, ?_⟩
            · have R6 := (R5.reframe (o' := .lst (acc ++ [v])) g0 h0).wipe vs
              rw [hw'] at R6
              exact R6
            · have pq2 := pq.mono ((gr.gg.trans s4).trans s5)
              have e5 : ∀ r : Res (List D), ((r.bind fun ys e4 => Res.ok (yd :: ys) e4).bind fun ys e4 => Res.ok (ds ++ ys) (restE e1 e4 vs)) = r.bind fun ys e4 => Res.ok (ds ++ [yd] ++ ys) (restE e1 e4 vs) := fun r => by
                cases r with
                | ok ys e => simp
                | exc x e => rfl
                | bad => rfl
              rw [e5] at pq2
              exact pq2
  · rw [List.drop_eq_nil_of_le (by omega)] at pq
    obtain ⟨hl, gl, ne⟩ := R'.framed g0
    have Ru := R'.unframe g0 h0
    have Rr := RepS.rest R1 sG Ru (wipe_length σ vs) vs hc.2
    rw [restS_wipe] at Rr
    have pq1 := pq G' H' Rr (Same.refl _)
    rw [hP] at pq1
    refine .inl ⟨it.2 (by omega), pq1 Dl acc ⟨hl, gl, h0, fun j es ej ek => ?_, by simpa using hr⟩⟩
    obtain ⟨m2, xs2, em, hm2, gm2, h02, _⟩ := Rr.ow ej
    rw [em] at ek
    cases ek
    -- the slot's list is the block's own: its cell stands outside vs
    have key : ∀ (us : List Nat), (restE e1 e' us)[j]? = some (.ow es) → noOw e1 us = true → e'[j]? = some (.ow es) ∧ j ∉ us := by
      intro us
      induction us with
      | nil => exact fun h _ => ⟨h, by simp⟩
      | cons u us ih =>
        intro h hn
        unfold noOw at hn
        rw [List.all_cons, Bool.and_eq_true] at hn
        have h' : ((restE e1 e' us).set u (e1.getD u .no))[j]? = some (.ow es) := h
        by_cases hu : u = j
        · exfalso
          subst hu
          obtain ⟨hi, _⟩ := List.getElem?_eq_some_iff.mp h'
          rw [List.getElem?_set_self (by simpa using hi), List.getD_eq_getElem?_getD] at h'
          have h1 := hn.1
          cases q : e1[u]? with
          | none =>
            rw [q] at h'
            cases h'
          | some c =>
            rw [q] at h' h1
            cases h'
            exact absurd (show false = true from h1) Bool.false_ne_true
        · rw [List.getElem?_set_ne hu] at h'
          obtain ⟨a, b⟩ := ih h' hn.2
          exact ⟨a, fun z => by
            rcases List.mem_cons.mp z with z | z
            · exact hu z.symm
            · exact b z⟩
    obtain ⟨k1, k2⟩ := key vs ej hc.2
    exact ne j es k1 (by rw [wipe_out k2]; exact em)
/-- [elt for tg in iter if ..] -/
theorem do_lc {e : Expr} {vs : List Nat} (hi : DI X W tg iter mi) (hix : ∀ i ∈ ix, i ∈ vs)
    (hp : ∀ wi, PI X tg iter wi → PE X e (tLc wi (cG X ix g) (cT X wF mt) (cE X wF el) vs)) : DO X W e (mLc g mi mt el vs) := by
  obtain ⟨wi, p, k⟩ := hi.run
  exact ⟨_, hp wi p, lc_read hix k⟩
/-- name = [..] -/
theorem ds_setLc {i : Nat} {st : Stmt} {vs : List Nat} (hi : DI X W tg iter mi) (hix : ∀ i ∈ ix, i ∈ vs)
    (hp : ∀ wi, PI X tg iter wi → PS X st (tAsg (tLc wi (cG X ix g) (cT X wF mt) (cE X wF el) vs) (L2.gName i))) : DS X W st (sSetO i (mLc g mi mt el vs)) := by
  obtain ⟨wi, p, k⟩ := hi.run
  refine ⟨_, hp wi p, fun G0 H0 G H σ env Dn R q => ?_⟩
  exact lc_read hix k G0 H0 G H σ env _ R ((PostS.so q).imp fun ds e1 G1 H1 R1 s1 q1 l xs O => q1 _ G1 H1 (R1.setOw O.at_ O.gl O.h0 O.rps fun j es _ => O.ne j es) (Same.refl _))
end
end Nm
end

section
set_option Elab.async false
set_option linter.all false
set_option maxRecDepth 100000
set_option maxHeartbeats 1000000
namespace Nm
open PySem PySem.Spec PyProof.Rows L2

/-! ### defs -/
/-- what a def hands back -/
inductive FR where
  | sh (d : D) | ow (ds : List D) | exc (x : Exc) | bad
def FRp (K : PySem.W.Frag) (mg : Str → Option Value) (G H : Hp) (r : FR) (Q : VK) (E : XK) : Prop :=
  match r with
  | .sh d => ∀ v G2 H2, Gr G H G2 H2 → Rp K G2 v d → Q v H2
  | .ow ds => ∀ l xs G2 H2, Gr G H G2 H2 → H2 l = some (.lst xs) → G2 l = none → H l = none → Rps K G2 xs ds → Q (.ref l) H2
  | .exc x => ∀ c od G2 H2, Gr G H G2 H2 → ExcR K mg G2 H2 x c od → E c od H2
  | .bad => False
/-- a def of n parameters that computes f and changes nothing -/
def spF (K : PySem.W.Frag) (mg : Str → Option Value) (n : Nat) (f : List D → FR) : Sp := fun vs H Q E => vs.length = n ∧ ∃ G ds, Same G H ∧ Rps K G vs ds ∧ FRp K mg G H (f ds) Q E
@[simp] def outF (o : Out) : FR := match o with
  | .nx _ => .sh .non
  | .rt (.sh d) _ => .sh d
  | .rt (.ow ds) _ => .ow ds
  | .exc x _ => .exc x
  | _ => .bad
def env0 (N : Nat) (ds : List D) : En := ds.map Cell.sh ++ List.replicate (N - ds.length) Cell.no
def frun (N : Nat) (m : MS) (ds : List D) : FR := outF (m (env0 N ds))

theorem reps_start {K : PySem.W.Frag} {G H : Hp} {N : List Str} {vs : List V} {ds : List D} (e : Same G H) (r : Rps K G vs ds) : RepS K G H G H (L2.start N vs) (env0 N.length ds) := by
  have hl := r.length
  refine ⟨Gr.refl e, by simp [env0, L2.start, hl], fun i c q => ?_, fun i j as bs l q1 q2 q3 q4 => ?_⟩
  · unfold env0 at q
    unfold L2.start
    by_cases hi : i < ds.length
    · rw [List.getElem?_append_left (by simpa using hi), List.getElem?_map, List.getElem?_eq_getElem hi] at q
      cases q
      obtain ⟨v, hv, rv⟩ := r.get (List.getElem?_eq_getElem hi)
      exact ⟨some v, by rw [List.getElem?_append_left (by simpa [hl] using hi), List.getElem?_map, hv]; rfl, v, rfl, rv⟩
    · rw [List.getElem?_append_right (by simpa using hi), List.getElem?_replicate] at q
      split at q
      · rename_i h1
        cases q
        refine ⟨none, ?_, trivial⟩
        rw [List.getElem?_append_right (by simp [hl]; omega), List.getElem?_replicate, if_pos (by simp [hl] at h1 ⊢; omega)]
      · cases q
  · exfalso
    unfold env0 at q1
    by_cases hi : i < ds.length
    · rw [List.getElem?_append_left (by simpa using hi), List.getElem?_map, List.getElem?_eq_getElem hi] at q1
      cases q1
    · rw [List.getElem?_append_right (by simpa using hi), List.getElem?_replicate] at q1
      split at q1
      · cases q1
      · cases q1

section
variable {P : Program} {w : World} {K : PySem.W.Frag} {mg : Str → Option Value} {base : Heap}
/-- the wish of a def's body: what is raised leaves it -/
abbrev wE (E : XK) : WX := fun cls d _ H => E cls d H
theorem fn_ok {x qual : Str} {st : Stmt} {f : Addr} {fd : FuncData} {N ps : List Str} {k : Nat} {m : MS} (F : Fun K x qual st f fd) (S : FnScope N ps (defScope st))
    (hb : ∀ (cdv : Value) (A : Around) (outer : List Env) (s : Shared) (H : Hp) (E : XK), Room k (A.deeper (envOfC qual (defScope st) s.heap.objs.size f cdv)) →
      DB (cxOf (L2.CX P w) P w K mg base N qual (defScope st) f cdv A outer s H E) (wE E) (defBody st) m) :
    FnOk P w K mg base (L2.CX P w) (k + 1) f fd ps (spF K mg ps.length (frun N.length m)) := by
  refine F.okX S (fun vs H Q E h => h.1) (fun cdv A outer s H vs Q E hr h => ?_)
  obtain ⟨hl, G, ds, sG, rs, q⟩ := h
  obtain ⟨t, p, kk⟩ := (hb cdv A outer s H E hr).run
  refine ⟨t, p, kk G H G H _ (env0 N.length ds) _ (reps_start sG rs) ?_⟩
  unfold frun at q
  generalize m (env0 N.length ds) = r at q
  cases r with
  | nx e => exact fun σ G2 H2 R s => q _ G2 H2 R.gr .non
  | rt x e =>
    cases x with
    | sh d => exact fun σ G2 H2 v R rv => q v G2 H2 R.gr rv
    | ow es => exact fun σ G2 H2 l xs R hl gl h0 rs => q l xs G2 H2 R.gr hl gl h0 rs
  | bk e => exact q.elim
  | ct e => exact q.elim
  | exc x e => exact fun σ G2 H2 c od R s er => q c od G2 H2 R.gr er
  | bad => exact q.elim
/-- the same promise by another function that says as much -/
theorem fn_to {f : Addr} {fd : FuncData} {ps : List Str} {k n : Nat} {g g' : List D → FR} (F : FnOk P w K mg base (L2.CX P w) k f fd ps (spF K mg n g)) (h : ∀ ds, ds.length = n → g' ds = .bad ∨ g ds = g' ds) :
    FnOk P w K mg base (L2.CX P w) k f fd ps (spF K mg n g') := F.imp fun vs H Q E ⟨hl, G, ds, sG, rs, q⟩ => ⟨hl, G, ds, sG, rs, by
  rcases h ds (by rw [← rs.length]; exact hl) with z | z
  · rw [z] at q
    exact q.elim
  · rw [z]
    exact q⟩
end

/-! ### calls -/
@[simp] def mCall (n : Nat) (f : List D → FR) (ma : MA) : ME := fun env => (ma env).bind fun ds e => if ds.length = n then match f ds with
    | .sh d => .ok d e
    | .ow es => .ok (.lst es) e
    | .exc x => .exc x e
    | .bad => .bad
  else .bad
@[simp] def mCallO (n : Nat) (f : List D → FR) (ma : MA) : MA := fun env => (ma env).bind fun ds e => if ds.length = n then match f ds with
    | .ow es => .ok es e
    | .exc x => .exc x e
    | _ => .bad
  else .bad
section
variable {X : Cx} {W : WX} {e : Expr} {es : List Expr} {ma : MA} {n : Nat} {f : List D → FR}
theorem call_core {G0 H0 G H : Hp} {σ : L2.St} {env : En} {Q : VK} {vs : List V} {ds : List D} (R : RepS X.K G0 H0 G H σ env) (rs : Rps X.K G vs ds) (hn : ds.length = n)
    (q : match f ds with
      | .sh d => ∀ v G2 H2, RepS X.K G0 H0 G2 H2 σ env → Same G G2 → Rp X.K G2 v d → Q v H2
      | .ow es => ∀ l xs G2 H2, RepS X.K G0 H0 G2 H2 σ env → Same G G2 → Own X.K H0 G2 H2 σ env l xs es → Q (.ref l) H2
      | .exc x => ∀ c od G2 H2, RepS X.K G0 H0 G2 H2 σ env → Same G G2 → ExcR X.K X.mg G2 H2 x c od → W c od σ H2
      | .bad => False) : spF X.K X.mg n f vs H Q (WE W σ) := by
  refine ⟨by rw [rs.length]; exact hn, G, ds, R.gh, rs, ?_⟩
  cases z : f ds with
  | sh d =>
    rw [z] at q
    exact fun v G2 H2 gr rv => q v G2 H2 (R.grow gr) gr.gg rv
  | ow es =>
    rw [z] at q
    refine fun l xs G2 H2 gr hl gl h0 rl => q l xs G2 H2 (R.grow gr) gr.gg ⟨hl, gl, R.gr.hh.free h0, fun j fs ej ek => ?_, rl⟩
    obtain ⟨m, ys, em, hm, _⟩ := R.ow ej
    rw [em] at ek
    cases ek
    rw [h0] at hm
    cases hm
  | exc x =>
    rw [z] at q
    exact fun c od G2 H2 gr er => q c od G2 H2 (R.grow gr) gr.gg er
  | bad =>
    rw [z] at q
    exact q.elim
/-- a call's reading: the arguments', then the promise at their values -/
theorem de_call {c : Expr} (h : DA X W es ma) (hp : ∀ t, PA X es t → PE X c (tCallS (spF X.K X.mg n f) (WE W) t)) : DE X W c (mCall n f ma) := by
  obtain ⟨t, p, k⟩ := h.run
  refine ⟨_, hp t p, fun G0 H0 G H σ env Q R q => ?_⟩
  refine k G0 H0 G H σ env _ R ((PostE.bind q).imp fun ds e1 G1 H1 R1 s1 q1 vs rs => ?_)
  split at q1
  · rename_i hn
    refine call_core R1 rs hn ?_
    cases z : f ds with
    | sh d =>
      rw [z] at q1
      exact fun v G2 H2 R2 s2 rv => q1 G2 H2 R2 s2 v rv
    | ow es =>
      rw [z] at q1
      refine fun l xs G2 H2 R2 s2 O => ?_
      obtain ⟨R3, s3, r3⟩ := R2.share O
      exact q1 _ _ R3 (s2.trans s3) _ r3
    | exc x =>
      rw [z] at q1
      exact q1
    | bad =>
      rw [z] at q1
      exact q1.elim
  · exact q1.elim
theorem do_call {c : Expr} (h : DA X W es ma) (hp : ∀ t, PA X es t → PE X c (tCallS (spF X.K X.mg n f) (WE W) t)) : DO X W c (mCallO n f ma) := by
  obtain ⟨t, p, k⟩ := h.run
  refine ⟨_, hp t p, fun G0 H0 G H σ env Q R q => ?_⟩
  refine k G0 H0 G H σ env _ R ((PostE.bind q).imp fun ds e1 G1 H1 R1 s1 q1 vs rs => ?_)
  split at q1
  · rename_i hn
    refine call_core R1 rs hn ?_
    cases z : f ds with
    | sh d =>
      rw [z] at q1
      exact q1.elim
    | ow es =>
      rw [z] at q1
      exact fun l xs G2 H2 R2 s2 O => q1 G2 H2 R2 s2 l xs O
    | exc x =>
      rw [z] at q1
      exact q1
    | bad =>
      rw [z] at q1
      exact q1.elim
  · exact q1.elim
end

/-! ### calls with keyword-only parameters -/
section
variable {X : Cx} {W : WX} {k : Nat} {fa : Addr} {fd : FuncData} {ps ks : List Str} {sp : Sp} {x : Str} {p pos : Pos} {e : Expr} {es : List Expr} {kws : List Keyword} {t tk : TA} {n : Nat}
def tCallKS (sp : Sp) (n m : Nat) (Ew : L2.St → XK) (t tk : TA) : TE := fun σ H Q => t σ H fun vs H1 => tk σ H1 fun zs H2 => vs.length = n ∧ zs.length = m ∧ sp (vs ++ zs) H2 Q (Ew σ)
theorem pe_callKS (F : FnOk X.prog X.w X.K X.mg X.base (L2.CX X.prog X.w) k fa fd ps sp) (hr : Room k X.A) (hg : Gl X x) (hm : X.mg x = some (.ref fa)) (hk : PySem.W.keepIn X.K (.ref fa) = true)
    (hb : ∀ (s : Shared) (us ws : List Value), us.length = n → ws.length = ks.length → BindsTo s fd ⟨us, ks.zip ws⟩ (ps.zip (us ++ ws))) (tw : Takes X W) (ha : PA X (e :: es) t) (hkw : PK X kws tk)
    (hall : (backToKw pos (keywordEach kws X.env)).all (·.1.isSome) = true := by rfl) (hks : (backToKw pos (keywordEach kws X.env)).filterMap (·.1) = ks := by rfl)
    (hdb : (x == ("__debug__" : Str)) = false := by decide) (he : starEach (e :: es) X.env = (false, eval e X.env) :: starEach es X.env := by rfl)
    (hpl : ((backTo pos (starEach (e :: es) X.env)).any (·.1) || (backToKw pos (keywordEach kws X.env)).any (·.1.isNone)) = false := by rfl) :
    PE X (.Call (.Name x p) (e :: es) kws pos) (tCallKS sp n ks.length (WE W) t tk) := by
  refine ⟨fun pins s σ H Q I h => wpAny_Call_Name_kw (ld_glob I hg hm ?_ hdb)⟩
  refine PySem.W.callWith_KW (h₀ := X.base) I.ok.mod.kin hk hall (thn (ha.run pos pins s σ H _ I h) fun us s1 ⟨vs, H1, I1, r1, q1⟩ => thn (hkw.run pos pins s1 σ H1 _ I1 q1) fun ws s2 ⟨zs, H2, I2, r2, hv, hz, q2⟩ => ⟨I2.kIn, ?_⟩) hpl he
  rw [hks]
  have lu : us.length = n := r1.length.symm.trans hv
  have lw : ws.length = ks.length := r2.length.symm.trans hz
  refine wpAny_call (codeAny_mono (F.run X.A X.stack s2 H2 ⟨us, ks.zip ws⟩ (us ++ ws) (vs ++ zs) Q (WE W σ) hr I2.env0 (hb s2 us ws lu lw) (r1.append r2) q2) fun r s3 hq => ?_)
  cases r with
  | error err => exact passAt tw σ pins H2 s2 err s3 I2 hq
  | ok fl =>
    cases fl with
    | ret u => exact I2.after hq
    | _ => exact hq.elim
structure DK (X : Cx) (W : WX) (kws : List Keyword) (m : MA) : Prop where
  run : ∃ t : TA, PK X kws t ∧ ∀ (G0 H0 G H : Hp) (σ : L2.St) (env : En) (Q : List V → Hp → Prop), RepS X.K G0 H0 G H σ env → PostE X W G0 H0 σ G (m env) (fun ds _ G2 H2 => ∀ vs, Rps X.K G2 vs ds → Q vs H2) → t σ H Q
theorem dk_nil : DK X W [] mNil := ⟨_, pk_nil, fun G0 H0 G H σ env Q R q => q G H R (Same.refl G) [] .nil⟩
theorem dk_cons {nm : Option Str} {kpos : Pos} {ma : ME} {mr : MA} (ha : DE X W e ma) (hr : DK X W kws mr) : DK X W (⟨nm, e, kpos⟩ :: kws) (mCons ma mr) := by
  obtain ⟨ta, pa, ka⟩ := ha.run
  obtain ⟨tr, pr, kr⟩ := hr.run
  refine ⟨_, pk_cons pa pr, fun G0 H0 G H σ env Q R q => ?_⟩
  refine ka G0 H0 G H σ env _ R ((PostE.bind q).imp fun dx env1 G1 H1 R1 s1 q1 x rx => ?_)
  refine kr G0 H0 G1 H1 σ env1 _ R1 ((PostE.bind q1).imp fun ds env2 G2 H2 R2 s2 q2 xs rs => ?_)
  exact q2 G2 H2 R2 (Same.refl _) (x :: xs) (.cons (rx.mono s2) rs)
@[simp] def mCallK (n m : Nat) (f : List D → FR) (ma mk : MA) : ME := fun env => (ma env).bind fun ds e => (mk e).bind fun ks e2 => if ds.length = n ∧ ks.length = m then match f (ds ++ ks) with
    | .sh d => .ok d e2
    | .ow es => .ok (.lst es) e2
    | .exc x => .exc x e2
    | .bad => .bad
  else .bad
theorem Rps.app2 {K : PySem.W.Frag} {G : Hp} {vs ws : List V} {ds es : List D} (a : Rps K G vs ds) (b : Rps K G ws es) : Rps K G (vs ++ ws) (ds ++ es) := a.append b
theorem de_callK {c : Expr} {m : Nat} {ma mk : MA} {f : List D → FR} (h : DA X W es ma) (hk : DK X W kws mk) (hp : ∀ t u, PA X es t → PK X kws u → PE X c (tCallKS (spF X.K X.mg (n + m) f) n m (WE W) t u)) : DE X W c (mCallK n m f ma mk) := by
  obtain ⟨t, p, kk⟩ := h.run
  obtain ⟨u, p2, k2⟩ := hk.run
  refine ⟨_, hp t u p p2, fun G0 H0 G H σ env Q R q => ?_⟩
  refine kk G0 H0 G H σ env _ R ((PostE.bind q).imp fun ds e1 G1 H1 R1 s1 q1 vs rs => ?_)
  refine k2 G0 H0 G1 H1 σ e1 _ R1 ((PostE.bind q1).imp fun es e2 G2 H2 R2 s2 q2 zs rz => ?_)
  split at q2
  · rename_i hn
    refine ⟨by rw [rs.length]; exact hn.1, by rw [rz.length]; exact hn.2, ?_⟩
    refine call_core R2 ((rs.mono s2).append rz) (by rw [List.length_append, hn.1, hn.2]) ?_
    cases z : f (ds ++ es) with
    | sh d =>
      rw [z] at q2
      exact fun v G3 H3 R3 s3 rv => q2 G3 H3 R3 s3 v rv
    | ow fs =>
      rw [z] at q2
      refine fun l xs G3 H3 R3 s3 O => ?_
      obtain ⟨R4, s4, r4⟩ := R3.share O
      exact q2 _ _ R4 (s3.trans s4) _ r4
    | exc x =>
      rw [z] at q2
      exact q2
    | bad =>
      rw [z] at q2
      exact q2.elim
  · exact q2.elim
end
end Nm
end

section
set_option Elab.async false
set_option linter.all false
set_option maxRecDepth 100000
set_option maxHeartbeats 1000000
namespace Nm
open PySem PySem.Spec PyProof.Rows L2

/-! ### data as the model's own data, for == -/
mutual
def D.py : D → PyData
  | .non => .none
  | .bl b => .bool b
  | .int i => .int i
  | .str s => .str s
  | .lst l => .list (pyAll l)
  | .fz l => .list (pyAll l)
  | .tup l => .tuple (pyAll l)
def pyAll : List D → List PyData
  | [] => []
  | d :: ds => d.py :: pyAll ds
end
mutual
theorem Rp.dp {K : PySem.W.Frag} {H : Hp} : ∀ {v : V} {d : D}, Rp K H v d → Dp K H v d.py
  | _, _, .non => by rw [D.py]; exact .non
  | _, _, .bl b => by rw [D.py]; exact .bl b
  | _, _, .int i => by rw [D.py]; exact .int i
  | _, _, .str x => by rw [D.py]; exact .str x
  | _, _, .lst h t => by rw [D.py]; exact .lst (.inl (.inl h)) (Rps.dp t)
  | _, _, .tup h t => by rw [D.py]; exact .tup h (Rps.dp t)
  | _, _, .fz h t => by rw [D.py]; exact .lst h (Rps.dp t)
theorem Rps.dp {K : PySem.W.Frag} {H : Hp} : ∀ {vs : List V} {ds : List D}, Rps K H vs ds → DpAll K H vs (pyAll ds)
  | _, _, .nil => by rw [pyAll]; exact .nil
  | _, _, .cons h t => by rw [pyAll]; exact .cons (Rp.dp h) (Rps.dp t)
end

/-! ### operators on data -/
def toI : D → Option Int
  | .int i => some i
  | _ => none
def toIs : List D → Option (List Int)
  | [] => some []
  | .int i :: ds => (toIs ds).map (i :: ·)
  | _ :: _ => none
theorem toIs_ints : ∀ {ds : List D} {ns : List Int}, toIs ds = some ns → ds = ns.map D.int
  | [], ns, h => by
    cases h
    rfl
  | d :: ds, ns, h => by
    cases d with
    | int i =>
      simp only [toIs] at h
      cases q : toIs ds with
      | none =>
        rw [q] at h
        cases h
      | some ms =>
        rw [q] at h
        cases h
        rw [toIs_ints q]
        rfl
    | _ => simp [toIs] at h
@[simp] theorem toIs_map : ∀ (ns : List Int), toIs (ns.map D.int) = some ns
  | [] => rfl
  | n :: ns => by simp [toIs, toIs_map ns]
/-- ints by a function, under a condition -/
@[simp] def gI (C : Int → Int → Bool) (f : Int → Int → Int) : D → D → Option D := fun x y => match x, y with
  | .int i, .int j => if C i j = true then some (.int (f i j)) else none
  | _, _ => none
@[simp] def gB (f : Int → Int → Bool) : D → D → Option D := fun x y => match x, y with
  | .int i, .int j => some (.bl (f i j))
  | _, _ => none
theorem opd_I {K : PySem.W.Frag} {Cp : Int → Int → Prop} {C : Int → Int → Bool} {f : Int → Int → Int} (hC : ∀ i j, C i j = true → Cp i j) : OpD K (rI Cp fun i j => .int (f i j)) (gI C f) := by
  intro G H x y dx dy d Q e rx ry h q
  unfold gI at h
  split at h
  · rename_i i j
    cases rx
    cases ry
    split at h
    · rename_i hc
      cases h
      exact ⟨i, j, rfl, rfl, hC i j hc, q _ G H (Gr.refl e) (.int _)⟩
    · cases h
  · cases h
theorem opd_I0 {K : PySem.W.Frag} {f : Int → Int → Int} : OpD K (rI0 fun i j => .int (f i j)) (gI (fun _ _ => true) f) := by
  intro G H x y dx dy d Q e rx ry h q
  unfold gI at h
  split at h
  · rename_i i j
    cases rx
    cases ry
    cases h
    exact ⟨i, j, rfl, rfl, q _ G H (Gr.refl e) (.int _)⟩
  · cases h
theorem opd_B {K : PySem.W.Frag} {f : Int → Int → Bool} : OpD K (rI0 fun i j => .bl (f i j)) (gB f) := by
  intro G H x y dx dy d Q e rx ry h q
  unfold gB at h
  split at h
  · rename_i i j
    cases rx
    cases ry
    cases h
    exact ⟨i, j, rfl, rfl, q _ G H (Gr.refl e) (.bl _)⟩
  · cases h
/-- lists: a + b, a * n -/
@[simp] def gCat : D → D → Option (List D) := fun x y => match x, y with
  | .lst a, .lst b => if a.length + b.length ≤ sizeLine then some (a ++ b) else none
  | _, _ => none
theorem opl_cat {K : PySem.W.Frag} : OpL K rCat gCat := by
  intro G H x y dx dy d Q e rx ry h q
  unfold gCat at h
  split at h
  · rename_i a b
    cases rx with
    | @lst l xs _ hx r1 =>
      cases ry with
      | @lst m ys _ hy r2 =>
        split at h
        · rename_i hz
          cases h
          exact ⟨l, m, xs, ys, rfl, rfl, e _ _ hx, e _ _ hy, by rw [r1.length, r2.length]; exact hz, fun p hp => q p _ hp (r1.append r2)⟩
        · cases h
  · cases h
@[simp] def gRep : D → D → Option (List D) := fun x y => match x, y with
  | .lst a, .int k => if inR k = true ∧ a.length * k.toNat ≤ sizeLine then some (List.replicate k.toNat a).flatten else none
  | _, _ => none
theorem Rps.flat {K : PySem.W.Frag} {G : Hp} {vs : List V} {ds : List D} (r : Rps K G vs ds) : ∀ n : Nat, Rps K G (List.replicate n vs).flatten (List.replicate n ds).flatten
  | 0 => .nil
  | n + 1 => by
    rw [List.replicate_succ, List.replicate_succ, List.flatten_cons, List.flatten_cons]
    exact r.append (Rps.flat r n)
theorem opl_rep {K : PySem.W.Frag} : OpL K rRep gRep := by
  intro G H x y dx dy d Q e rx ry h q
  unfold gRep at h
  split at h
  · rename_i a k
    cases rx with
    | @lst l xs _ hx r1 =>
      cases ry
      split at h
      · rename_i hz
        cases h
        exact ⟨l, k, xs, rfl, rfl, e _ _ hx, by have := inR_ok hz.1; omega, by have := inR_ok hz.1; omega, by rw [r1.length]; exact hz.2, fun p hp => q p _ hp (r1.flat _)⟩
      · cases h
  · cases h
/-- a new list as shared data -/
def gSh (g : D → D → Option (List D)) : D → D → Option D := fun x y => (g x y).map D.lst
/-- texts -/
def gCatS : D → D → Option D := fun x y => match x, y with
  | .str a, .str b => if a.length + b.length ≤ sizeLine then some (.str (a ++ b)) else none
  | _, _ => none
theorem opd_catS {K : PySem.W.Frag} : OpD K (fun x y H Q => ∃ i j, x = .str i ∧ y = .str j ∧ i.length + j.length ≤ sizeLine ∧ Q (.str (i ++ j)) H) gCatS := by
  intro G H x y dx dy d Q e rx ry h q
  unfold gCatS at h
  split at h
  · rename_i a b
    cases rx
    cases ry
    split at h
    · rename_i hz
      cases h
      exact ⟨a, b, rfl, rfl, hz, q _ G H (Gr.refl e) (.str _)⟩
    · cases h
  · cases h
/-- == and != -/
def okEq (x : D) : Bool := SeqAt.shaped x.py
def eqvD (x y : D) : Bool := PyData.eqv x.py y.py
def gEq : D → D → Option D := fun x y => if okEq x = true ∧ okEq y = true then some (.bl (eqvD x y)) else none
def gNe : D → D → Option D := fun x y => if okEq x = true ∧ okEq y = true then some (.bl (!eqvD x y)) else none
theorem opd_eq {K : PySem.W.Frag} : OpD K (rEqD K) gEq := by
  intro G H x y dx dy d Q e rx ry h q
  unfold gEq at h
  split at h
  · rename_i hz
    cases h
    exact ⟨_, _, (rx.mono e).dp, (ry.mono e).dp, hz.1, hz.2, q _ G H (Gr.refl e) (.bl _)⟩
  · cases h
theorem opd_ne {K : PySem.W.Frag} : OpD K (rNeD K) gNe := by
  intro G H x y dx dy d Q e rx ry h q
  unfold gNe at h
  split at h
  · rename_i hz
    cases h
    exact ⟨_, _, (rx.mono e).dp, (ry.mono e).dp, hz.1, hz.2, q _ G H (Gr.refl e) (.bl _)⟩
  · cases h
/-- is None -/
@[simp] def isN : D → Bool
  | .non => true
  | _ => false
@[simp] def gIsN : D → D → Option D := fun x y => match y with
  | .non => some (.bl (isN x))
  | _ => none
@[simp] def gNotN : D → D → Option D := fun x y => match y with
  | .non => some (.bl (!isN x))
  | _ => none
theorem Rp.isN {K : PySem.W.Frag} {G : Hp} {v : V} {d : D} (r : Rp K G v d) : decide (v = .non) = isN d := by
  cases r with
  | non => exact decide_eq_true rfl
  | _ => exact decide_eq_false (fun z => by cases z)
theorem opd_isN {K : PySem.W.Frag} : OpD K (fun x y H Q => y = .non ∧ Q (.bl (decide (x = .non))) H) gIsN := by
  intro G H x y dx dy d Q e rx ry h q
  unfold gIsN at h
  split at h
  · cases ry
    cases h
    exact ⟨rfl, q _ G H (Gr.refl e) (by rw [rx.isN]; exact .bl _)⟩
  · cases h
theorem opd_notN {K : PySem.W.Frag} : OpD K (fun x y H Q => y = .non ∧ Q (.bl (!decide (x = .non))) H) gNotN := by
  intro G H x y dx dy d Q e rx ry h q
  unfold gNotN at h
  split at h
  · cases ry
    cases h
    exact ⟨rfl, q _ G H (Gr.refl e) (by rw [rx.isN]; exact .bl _)⟩
  · cases h
/-- a subscript of a list, a tuple, a text -/
@[simp] def gIx : D → D → Option D := fun x y => match x, y with
  | .lst ds, .int i => atI ds i
  | .fz ds, .int i => atI ds i
  | .tup ds, .int i => atI ds i
  | .str z, .int i => if z.length ≤ sizeLine then (atI z.cps.toList i).map fun c => .str ⟨#[c]⟩ else none
  | _, _ => none
theorem Rps.atI {K : PySem.W.Frag} {G : Hp} {vs : List V} {ds : List D} {i : Int} {d : D} (r : Rps K G vs ds) (h : atI ds i = some d) : ∃ v, L2.atI vs i = some v ∧ Rp K G v d := by
  unfold L2.atI at h ⊢
  rw [r.length]
  cases q : ixN ds.length i with
  | none =>
    rw [q] at h
    cases h
  | some j =>
    rw [q] at h
    exact r.get h
theorem opd_ix {K : PySem.W.Frag} : OpD K (rIx K) gIx := by
  intro G H x y dx dy d Q e rx ry h q
  unfold gIx at h
  split at h
  · rename_i ds i
    cases rx with
    | @lst a xs _ hx r =>
      cases ry
      obtain ⟨v, hv, rv⟩ := r.atI h
      exact .inl ⟨a, xs, i, v, rfl, rfl, .inl (.inl (e _ _ hx)), hv, q v G H (Gr.refl e) rv⟩
  · rename_i ds i
    cases rx with
    | @fz a xs _ hx r =>
      cases ry
      obtain ⟨v, hv, rv⟩ := r.atI h
      exact .inl ⟨a, xs, i, v, rfl, rfl, same_l e hx, hv, q v G H (Gr.refl e) rv⟩
  · rename_i ds i
    cases rx with
    | @tup a xs _ hx r =>
      cases ry
      obtain ⟨v, hv, rv⟩ := r.atI h
      exact .inr (.inl ⟨a, xs, i, v, rfl, rfl, same_t e hx, hv, q v G H (Gr.refl e) rv⟩)
  · rename_i z i
    cases rx
    cases ry
    split at h
    · rename_i hz
      cases q2 : L2.atI z.cps.toList i with
      | none =>
        rw [q2] at h
        cases h
      | some c =>
        rw [q2] at h
        cases h
        exact .inr (.inr ⟨z, i, c, rfl, rfl, hz, q2, q _ G H (Gr.refl e) (.str _)⟩)
    · cases h
  · cases h
/-- -x -/
@[simp] def gNeg : D → Option D := fun x => match x with
  | .int i => some (.int (-i))
  | _ => none
theorem und_neg {K : PySem.W.Frag} : UnD K (rU fun i => .int (-i)) gNeg := by
  intro G H x dx d Q e rx h q
  unfold gNeg at h
  split at h
  · rename_i i
    cases rx
    cases h
    exact ⟨i, rfl, q _ G H (Gr.refl e) (.int _)⟩
  · cases h

/-! ### built-ins -/
@[simp] def gLen : List D → Option D := fun ds => match ds with
  | [.lst xs] => some (.int xs.length)
  | [.fz xs] => some (.int xs.length)
  | [.tup xs] => some (.int xs.length)
  | [.str z] => if z.length ≤ sizeLine then some (.int z.length) else none
  | _ => none
theorem cd_len {K : PySem.W.Frag} : CallD K (fun xs H Q => ∃ x n, xs = [x] ∧ LenV K x H n ∧ Q (.int n) H) gLen := by
  intro G H xs ds d Q e rs h q
  unfold gLen at h
  split at h
  · rename_i ys
    cases rs with
    | cons r0 rs =>
      cases rs
      cases r0 with
      | @lst a vs _ hx r =>
        cases h
        exact ⟨_, _, rfl, .inl ⟨vs, .inl (.inl (e _ _ hx)), rfl⟩, q _ G H (Gr.refl e) (by rw [r.length]; exact .int _)⟩
  · rename_i ys
    cases rs with
    | cons r0 rs =>
      cases rs
      cases r0 with
      | @fz a vs _ hx r =>
        cases h
        exact ⟨_, _, rfl, .inl ⟨vs, same_l e hx, rfl⟩, q _ G H (Gr.refl e) (by rw [r.length]; exact .int _)⟩
  · rename_i ys
    cases rs with
    | cons r0 rs =>
      cases rs
      cases r0 with
      | @tup a vs _ hx r =>
        cases h
        exact ⟨_, _, rfl, .inr ⟨vs, same_t e hx, rfl⟩, q _ G H (Gr.refl e) (by rw [r.length]; exact .int _)⟩
  · rename_i z
    cases rs with
    | cons r0 rs =>
      cases rs
      cases r0
      split at h
      · rename_i hz
        cases h
        exact ⟨_, _, rfl, ⟨hz, rfl⟩, q _ G H (Gr.refl e) (.int _)⟩
      · cases h
  · cases h
@[simp] def gInt : List D → Option D := fun ds => match ds with
  | [.int i] => some (.int i)
  | [.bl b] => some (.int (if b = true then 1 else 0))
  | _ => none
theorem cd_int {K : PySem.W.Frag} : CallD K (fun xs H Q => (∃ i, xs = [.int i] ∧ Q (.int i) H) ∨ ∃ k, xs = [.bl k] ∧ Q (.int (if k then 1 else 0)) H) gInt := by
  intro G H xs ds d Q e rs h q
  unfold gInt at h
  split at h
  · cases rs with
    | cons r0 rs =>
      cases rs
      cases r0
      cases h
      exact .inl ⟨_, rfl, q _ G H (Gr.refl e) (.int _)⟩
  · cases rs with
    | cons r0 rs =>
      cases rs
      cases r0
      cases h
      exact .inr ⟨_, rfl, q _ G H (Gr.refl e) (.int _)⟩
  · cases h
/-- of a list of ints -/
def gOfInts {α : Type} (f : List Int → Option α) : List D → Option α := fun ds => match ds with
  | [.lst xs] => (toIs xs).bind f
  | _ => none
theorem ofInts_core {α : Type} {K : PySem.W.Frag} {G H : Hp} {xs : List V} {ds : List D} {f : List Int → Option α} {d : α} (e : Same G H) (rs : Rps K G xs ds) (h : gOfInts f ds = some d) :
    ∃ (a : Addr) (ns : List Int), xs = [.ref a] ∧ SqL K H a (ns.map V.int) ∧ f ns = some d := by
  unfold gOfInts at h
  split at h
  · rename_i ys
    cases rs with
    | cons r0 rs =>
      cases rs
      cases r0 with
      | @lst a vs _ hx r =>
        cases z : toIs ys with
        | none =>
          rw [z] at h
          cases h
        | some ns =>
          rw [z] at h
          have e2 := toIs_ints z
          subst e2
          refine ⟨a, ns, rfl, ?_, h⟩
          rw [← r.ints]
          exact .inl (.inl (e _ _ hx))
  · cases h
def lmin : List Int → Option Int
  | [] => none
  | x :: xs => some (xs.foldl (fun a b => if b < a then b else a) x)
def lmax : List Int → Option Int
  | [] => none
  | x :: xs => some (xs.foldl (fun a b => if a < b then b else a) x)
theorem foldmin_le : ∀ (xs : List Int) (x : Int), xs.foldl (fun a b => if b < a then b else a) x ≤ x ∧ (∀ y ∈ xs, xs.foldl (fun a b => if b < a then b else a) x ≤ y) ∧ (xs.foldl (fun a b => if b < a then b else a) x = x ∨ xs.foldl (fun a b => if b < a then b else a) x ∈ xs)
  | [], x => ⟨Int.le_refl _, by simp, .inl rfl⟩
  | z :: zs, x => by
    obtain ⟨h1, h2, h3⟩ := foldmin_le zs (if z < x then z else x)
    simp only [List.foldl_cons]
    have hx : (if z < x then z else x) ≤ x ∧ (if z < x then z else x) ≤ z := by split <;> omega
    refine ⟨by omega, fun y hy => ?_, ?_⟩
    · rcases List.mem_cons.mp hy with e | hy
      · omega
      · exact h2 y hy
    · rcases h3 with e | e
      · by_cases c : z < x
        · rw [if_pos c] at e ⊢
          exact .inr (by rw [e]; exact List.mem_cons_self)
        · rw [if_neg c] at e ⊢
          exact .inl e
      · exact .inr (List.mem_cons_of_mem _ e)
theorem foldmax_ge : ∀ (xs : List Int) (x : Int), x ≤ xs.foldl (fun a b => if a < b then b else a) x ∧ (∀ y ∈ xs, y ≤ xs.foldl (fun a b => if a < b then b else a) x) ∧ (xs.foldl (fun a b => if a < b then b else a) x = x ∨ xs.foldl (fun a b => if a < b then b else a) x ∈ xs)
  | [], x => ⟨Int.le_refl _, by simp, .inl rfl⟩
  | z :: zs, x => by
    obtain ⟨h1, h2, h3⟩ := foldmax_ge zs (if x < z then z else x)
    simp only [List.foldl_cons]
    have hx : x ≤ (if x < z then z else x) ∧ z ≤ (if x < z then z else x) := by split <;> omega
    refine ⟨by omega, fun y hy => ?_, ?_⟩
    · rcases List.mem_cons.mp hy with e | hy
      · omega
      · exact h2 y hy
    · rcases h3 with e | e
      · by_cases c : x < z
        · rw [if_pos c] at e ⊢
          exact .inr (by rw [e]; exact List.mem_cons_self)
        · rw [if_neg c] at e ⊢
          exact .inl e
      · exact .inr (List.mem_cons_of_mem _ e)
theorem lmin_spec {xs : List Int} {m : Int} (h : lmin xs = some m) : m ∈ xs ∧ ∀ y ∈ xs, m ≤ y := by
  cases xs with
  | nil => cases h
  | cons x xs =>
    cases h
    obtain ⟨h1, h2, h3⟩ := foldmin_le xs x
    refine ⟨?_, fun y hy => ?_⟩
    · rcases h3 with e | e
      · rw [e]
        exact List.mem_cons_self
      · exact List.mem_cons_of_mem _ e
    · rcases List.mem_cons.mp hy with e | hy
      · rw [e]
        exact h1
      · exact h2 y hy
theorem lmax_spec {xs : List Int} {m : Int} (h : lmax xs = some m) : m ∈ xs ∧ ∀ y ∈ xs, y ≤ m := by
  cases xs with
  | nil => cases h
  | cons x xs =>
    cases h
    obtain ⟨h1, h2, h3⟩ := foldmax_ge xs x
    refine ⟨?_, fun y hy => ?_⟩
    · rcases h3 with e | e
      · rw [e]
        exact List.mem_cons_self
      · exact List.mem_cons_of_mem _ e
    · rcases List.mem_cons.mp hy with e | hy
      · rw [e]
        exact h1
      · exact h2 y hy
def gSum : List D → Option D := gOfInts fun ns => some (.int ns.sum)
def gMinL : List D → Option D := gOfInts fun ns => (lmin ns).map D.int
def gMaxL : List D → Option D := gOfInts fun ns => (lmax ns).map D.int
theorem cd_sum {K : PySem.W.Frag} : CallD K (rSum K) gSum := by
  intro G H xs ds d Q e rs h q
  obtain ⟨a, ns, rfl, hs, hd⟩ := ofInts_core e rs h
  cases hd
  exact ⟨a, ns, rfl, hs, q _ G H (Gr.refl e) (.int _)⟩
theorem cd_minL {K : PySem.W.Frag} : CallD K (rMin K) gMinL := by
  intro G H xs ds d Q e rs h q
  obtain ⟨a, ns, rfl, hs, hd⟩ := ofInts_core e rs h
  cases z : lmin ns with
  | none =>
    rw [z] at hd
    cases hd
  | some m =>
    rw [z] at hd
    cases hd
    obtain ⟨m1, m2⟩ := lmin_spec z
    refine ⟨a, ns, rfl, hs, List.length_pos_of_mem m1, fun m' h1 h2 => ?_⟩
    have e1 : m' = m := Int.le_antisymm (h2 m m1) (m2 m' h1)
    rw [e1]
    exact q _ G H (Gr.refl e) (.int _)
theorem cd_maxL {K : PySem.W.Frag} : CallD K (rMax K) gMaxL := by
  intro G H xs ds d Q e rs h q
  obtain ⟨a, ns, rfl, hs, hd⟩ := ofInts_core e rs h
  cases z : lmax ns with
  | none =>
    rw [z] at hd
    cases hd
  | some m =>
    rw [z] at hd
    cases hd
    obtain ⟨m1, m2⟩ := lmax_spec z
    refine ⟨a, ns, rfl, hs, List.length_pos_of_mem m1, fun m' h1 h2 => ?_⟩
    have e1 : m' = m := Int.le_antisymm (m2 m' h1) (h2 m m1)
    rw [e1]
    exact q _ G H (Gr.refl e) (.int _)
/-- max(i, j), min(i, j) -/
def gMax2 : List D → Option D := fun ds => match ds with
  | [.int i, .int j] => some (.int (if j > i then j else i))
  | _ => none
def gMin2 : List D → Option D := fun ds => match ds with
  | [.int i, .int j] => some (.int (if j < i then j else i))
  | _ => none
theorem cd_max2 {K : PySem.W.Frag} : CallD K (fun xs H Q => ∃ i j, xs = [.int i, .int j] ∧ Q (.int (if j > i then j else i)) H) gMax2 := by
  intro G H xs ds d Q e rs h q
  unfold gMax2 at h
  split at h
  · cases rs with
    | cons r0 rs =>
      cases r0
      cases rs with
      | cons r1 rs =>
        cases r1
        cases rs
        cases h
        exact ⟨_, _, rfl, q _ G H (Gr.refl e) (.int _)⟩
  · cases h
theorem cd_min2 {K : PySem.W.Frag} : CallD K (fun xs H Q => ∃ i j, xs = [.int i, .int j] ∧ Q (.int (if j < i then j else i)) H) gMin2 := by
  intro G H xs ds d Q e rs h q
  unfold gMin2 at h
  split at h
  · cases rs with
    | cons r0 rs =>
      cases r0
      cases rs with
      | cons r1 rs =>
        cases r1
        cases rs
        cases h
        exact ⟨_, _, rfl, q _ G H (Gr.refl e) (.int _)⟩
  · cases h
/-- list(x) of a list or a tuple -/
@[simp] def gList : List D → Option (List D) := fun ds => match ds with
  | [.lst xs] => some xs
  | [.fz xs] => some xs
  | [.tup xs] => some xs
  | _ => none
theorem cl_list {K : PySem.W.Frag} : CallL K (fun xs H Q => ∃ p ys, xs = [.ref p] ∧ (SqL K H p ys ∨ SqT K H p ys) ∧ ∀ l, H l = none → Q (.ref l) (upd H l (.lst ys))) gList := by
  intro G H xs ds d Q e rs h q
  unfold gList at h
  split at h
  · cases rs with
    | cons r0 rs =>
      cases rs
      cases r0 with
      | @lst a vs _ hx r =>
        cases h
        exact ⟨a, vs, rfl, .inl (.inl (.inl (e _ _ hx))), fun l hl => q l vs hl r⟩
  · cases rs with
    | cons r0 rs =>
      cases rs
      cases r0 with
      | @fz a vs _ hx r =>
        cases h
        exact ⟨a, vs, rfl, .inl (same_l e hx), fun l hl => q l vs hl r⟩
  · cases rs with
    | cons r0 rs =>
      cases rs
      cases r0 with
      | @tup a vs _ hx r =>
        cases h
        exact ⟨a, vs, rfl, .inr (same_t e hx), fun l hl => q l vs hl r⟩
  · cases h
/-- isinstance(x, T), T one of the built-in types that are asked here -/
def tyN : D → String
  | .non => "NoneType"
  | .bl _ => "bool"
  | .int _ => "int"
  | .str _ => "str"
  | .lst _ => "list"
  | .fz _ => "list"
  | .tup _ => "tuple"
theorem Rp.ty {K : PySem.W.Frag} {G H : Hp} {v : V} {d : D} (e : Same G H) (r : Rp K G v d) : TyX K H v (.type (tyN d)) := by
  cases r with
  | non => exact .base .non
  | bl b => exact .base (.bl b)
  | int i => exact .base (.int i)
  | str x => exact .base (.str x)
  | lst h t => exact .base (.lst (e _ _ h))
  | tup h t =>
    rcases same_t e h with (h | ⟨o, h⟩) | ⟨o, its, n, h, c, _⟩
    · exact .base (.tup h)
    · exact .fTuple h
    · exact .kTuple h c
  | fz h t =>
    rcases same_l e h with (h | ⟨o, h⟩) | ⟨o, its, n, h, c, _⟩
    · exact .base (.lst h)
    · exact .base (.frz h)
    · exact .kList h c
@[simp] def mIsi (b : String → Bool) (m : ME) : ME := fun env => (m env).bind fun d e => .ok (.bl (b (tyN d))) e
def isList (t : String) : Bool := t == "list"
def isTuple (t : String) : Bool := t == "tuple"
def isInt (t : String) : Bool := t == "int" || t == "bool"
def isBool (t : String) : Bool := t == "bool"
def isStr (t : String) : Bool := t == "str"
theorem de_isi {X : Cx} {W : WX} {a e : Expr} {m : ME} {T : String} {b : String → Bool} (hk : ∀ d : D, kitB (tyN d) T = some (b (tyN d))) (ha : DE X W a m) (hp : ∀ t, PE X a t → PE X e (tCB (rIsi X.K) (tCons t (tCons (tC (.ty T)) tNil)))) : DE X W e (mIsi b m) := by
  obtain ⟨t, p, k⟩ := ha.run
  refine ⟨_, hp t p, fun G0 H0 G H σ env Q R q => ?_⟩
  refine k G0 H0 G H σ env _ R ((PostE.bind q).imp fun d e1 G1 H1 R1 s1 q1 v rv => ?_)
  exact ⟨v, .ty T, _, _, _, rfl, .ty T, rv.ty R1.gh, kit_ty (hk d), q1 G1 H1 R1 (Same.refl _) _ (.bl _)⟩
theorem kit_list (d : D) : kitB (tyN d) "list" = some (isList (tyN d)) := by cases d <;> (dsimp only [tyN]; decide +kernel)
theorem kit_tuple (d : D) : kitB (tyN d) "tuple" = some (isTuple (tyN d)) := by cases d <;> (dsimp only [tyN]; decide +kernel)
theorem kit_int (d : D) : kitB (tyN d) "int" = some (isInt (tyN d)) := by cases d <;> (dsimp only [tyN]; decide +kernel)
theorem kit_bool (d : D) : kitB (tyN d) "bool" = some (isBool (tyN d)) := by cases d <;> (dsimp only [tyN]; decide +kernel)
theorem kit_str (d : D) : kitB (tyN d) "str" = some (isStr (tyN d)) := by cases d <;> (dsimp only [tyN]; decide +kernel)
end Nm
end

section
set_option Elab.async false
set_option linter.all false
set_option maxRecDepth 100000
set_option maxHeartbeats 1000000
namespace Nm
open PySem PySem.Spec PyProof.Rows L2

/-! ### an own exception class over ValueError with super().__init__(text) in its __init__ -/
/-- the body's context: one captured cell -/
def cxS (CX : CXT) (P : Program) (w : World) (K : PySem.W.Frag) (mg : Str → Option Value) (base : Heap) (N : List Str) (qual : Str) (scope : Scope) (f : Addr) (cd : Value) (cc : Addr) (A : Around) (outer : List Env) (s : Shared) (H : Hp) (E : XK) : Cx :=
  let env := PySem.W.ksEnv qual scope s.heap.objs.size f cd cc
  { prog := P, w := w, K := K, mg := mg, base := base, A := A.deeper env, N := N, s_0 := s, H_0 := H, env := env, outer := outer, stack := env :: outer, ex := [], calm := true, fn := fun _ => false, pn := [],
    xe := fun e s' => wpAny (model P w) (A.deeper env) (leaving env e) (fun _ s'' => CX outer H s E e s'') (fun e' s'' => CX outer H s E e' s'') s' }

theorem inv_super {CX : CXT} {P : Program} {w : World} {K : PySem.W.Frag} {mg : Str → Option Value} {base : Heap} {a0 b0 : Str} {qual : Str} {scope : Scope} {f cc : Addr} {cd : Value} {A : Around} {outer : List Env} {s : Shared} {H : Hp} {E : XK} {v1 v2 : V} {u1 u2 : Value}
    {cl : Value} {cld : Option Addr} {csl : Array (Option Value)} {cvo : Option Value} {h0 : Heap} {tk : Nat}
    (hk : scope.kind = .function) (hfr : ∀ x, scope.names.lookup x = some .cell ∨ scope.names.lookup x = some .free → x = "__class__") (hab : a0 ≠ b0) (la : scope.names.lookup a0 = some .local) (lb : scope.names.lookup b0 = some .local)
    (hcell : K.lookup cc = some ⟨cl, cld, .cell cvo, csl⟩) (hd : A.handled = none) (e0 : Env0 P w K mg base A outer s H) (r1 : RelV v1 u1) (r2 : RelV v2 u2)
    (hns : h0.Ns s.heap.objs.size (fun x => ([(a0, u1), (b0, u2)] : List (Str × Value)).reverse.lookup x)) (hkp : ∀ b o, s.heap.get? b = some o → h0.get? b = some o) :
    Inv (cxS CX P w K mg base [a0, b0] qual scope f cd cc A outer s H E) [] [some v1, some v2] H { s with heap := h0, toks := tk } := by
  have cl1 : ∀ {x : Str} {c : Addr}, ([("__class__", cc)] : List (Str × Addr)).lookup x = some c → x = "__class__" ∧ c = cc := fun {x c} h => by
    by_cases e : x = "__class__"
    · subst e
      simp [List.lookup] at h
      exact ⟨rfl, h.symm⟩
    · have e' : (x == ("__class__" : Str)) = false := by simpa using e
      simp [List.lookup, e'] at h
  have bcc := e0.mod.kin _ _ hcell
  have scc := e0.bs _ _ bcc
  have noA : ∀ b : Addr, b ∉ ([] : List Addr) := fun b z => absurd z (by simp)
  refine ⟨⟨e0.mod, hk, rfl, rfl, Nat.le_refl _, fun y z c h1 h2 => ?_, fun y hy => ?_, fun y c h _ => ?_, fun _ => hd, Around.frames_deeper e0.frames, .inr ⟨rfl, rfl⟩, fun b z => absurd z (noA b), e0.bs, e0.bsz, fun b _ _ => noA b, fun b z => absurd z (noA b), e0.funs, e0.frf⟩,
    rfl, e0.bare, Un.kept hkp, ⟨_, hns, fun i y v h1 h2 h3 => ?_⟩, fun y c h => ?_, e0.hok.fresh (Nat.le_refl _), fun y c h => ?_, fun p hp => absurd (show p ∈ ([] : List (Addr × Obj)) from hp) (by simp), e0.hok.kept hkp, rfl⟩
  · exact (cl1 h1).1.trans (cl1 h2).1.symm
  · refine ⟨cc, ?_⟩
    rw [hfr y hy]
    rfl
  · cases h
  · have h1' : ([a0, b0] : List Str)[i]? = some y := h1
    rcases i with _ | _ | i
    · simp at h1' h2
      subst h1'; subst h2
      refine ⟨u1, r1, .inl ⟨la, ?_⟩⟩
      have : (a0 == b0) = false := by simpa using hab
      simp [List.lookup, this]
    · simp at h1' h2
      subst h1'; subst h2
      refine ⟨u2, r2, .inl ⟨lb, ?_⟩⟩
      simp [List.lookup]
    · simp at h1'
  · rw [(cl1 h).2]
    exact ⟨_, _, hkp _ _ scc.1, rfl⟩
  · rw [(cl1 h).2]
    exact scc.2

/-- ValueError.__init__, bound, is called -/
theorem call_wrap {X : Cx} {pins : List (Addr × Obj)} {σ : L2.St} {H : Hp} {s : Shared} {A : Around} {E : Value → Shared → Prop} {a C u : Addr} {us : List Value} {Q : Value → Shared → Prop} (T : OexC X.K C) (I : Inv X pins σ H s) (e : H a = some (exo a C none)) (hl : us.length ≤ sizeLine)
    (hu : s.heap.get? u = some (PySem.W.kxs_mw "ValueError.__init__" a)) (h : ∀ s', Inv X pins σ H s' → Q .none s') : wpAny (model X.prog X.w) A (call (.ref u) us) Q E s := by
  obtain ⟨nm, q, N, bs, bm, sn, sub, ab, col, dd, k0, k1, k2, k3, k5, hC, hbm⟩ := T.cls
  obtain ⟨t1, ho⟩ := exo_at I.hok e
  obtain ⟨hp, g, d, t, os⟩ := s
  refine wpAny_call (codeAny_of_tree ?_)
  show wpAny _ A.in1 (callAny (.ref u) ⟨us, []⟩) _ _ _
  simp only [callAny]
  refine wpAny_bind (wpAny_load hu ?_)
  simp only [PySem.W.kxs_mw, show (Value.type "method-wrapper" == Value.type "method" || Value.type "method-wrapper" == Value.type "builtin_function_or_method" || Value.type "method-wrapper" == Value.type "method-wrapper") = true by decide, if_true]
  refine PySem.W.KFB.if_so (by decide) ?_
  refine wpAny_bind (PySem.W.check_bound_init F.excBase_ValueError.toExcCallFacts (I.kIn _ _ hC) ho rfl ?_)
  refine wpAny_bind (wpAny_pure (wpAny_pure ?_))
  refine ⟨plainId_quiet F.excBase_ValueError.init.plain _, codeAny_builtin F.excBase_ValueError.initEntry ?_⟩
  refine PySem.W.exc_init_tree (cls := .ref C) (t0 := t1) (dv := none) (c2 := .none) (c3 := .none) (b4 := .bool false) ho hl fun h' k hx ht => ?_
  have J := I.write (t' := t) (x := a) (e := a) (o := exo a C none) (by rw [e]; exact True.intro) (.inl rfl) k ⟨_, hx⟩ (exo_ok hx)
  have eu : upd H a (exo a C none) = H := by
    funext b
    by_cases hb : b = a
    · rw [hb, upd_same, e]
    · rw [upd_ne hb]
  rw [eu] at J
  exact h _ J

/-- what the __init__ keeps: the field is stored -/
def spI (K : PySem.W.Frag) (C : Addr) (fld : Str) : Sp := fun vs H Q E => ∃ (a : Addr) (y : Str), vs = [.ref a, .str y] ∧ y.length ≤ 1000 ∧ H a = some (exo a C none) ∧
  ∀ dx, H dx = none → dx ≠ a → Q .non (upd (upd H dx (exd dx [(fld, .str y)])) a (exo a C (some dx)))

/-- the one scope of such an __init__(self, part) -/
abbrev scI : Scope := { kind := .function, names := [("self", .local), ("part", .local), ("__class__", .free), ("super", .globalImplicit)], isGenerator := false, isCoroutine := false, more := [] }
abbrev bodyI (ta tb : Str) (p0 p1 p2 p3 p4 p5 p6 p7 p8 q1 q2 q3 q4 q5 : Pos) : List Stmt :=
  [.Expr (.Call (.Attribute (.Call (.Name "super" p0) [] [] p1) "__init__" p2) [.JoinedStr [.Constant (.str ta) 0 q1, .FormattedValue (.Name "part" q2) (-1) none q3, .Constant (.str tb) 0 q4] q5] [] p3) p4, .Assign [.Attribute (.Name "self" p5) "part" p6] (.Name "part" p7) p8]
theorem init_super {CX : CXT} {P : Program} {w : World} {K : PySem.W.Frag} {mg : Str → Option Value} {base : Heap} {k : Nat} {f C cc cda : Addr} {name qual : Str} {params : Arguments} {dV kV doc pm ct oc ccl cl : Value} {an od cdd cld : Option Addr}
    {osl ccs csl : Array (Option Value)} {vs0 : Array Value} {file : Str} {tf : Tok} {cdC : ClassData} {ta tb : Str} {ar : Arg} {p0 p1 p2 p3 p4 p5 p6 p7 p8 q1 q2 q3 q4 q5 : Pos}
    (lk : K.lookup f = some ⟨oc, od, .func (PySem.W.ksFn name qual params (bodyI ta tb p0 p1 p2 p3 p4 p5 p6 p7 p8 q1 q2 q3 q4 q5) scI dV kV doc pm an (.ref cda) ct cc), osl⟩)
    (hcd : PySem.W.codeIn K (.ref cda) qual = true) (hcode : K.lookup cda = some ⟨ccl, cdd, .fields vs0, ccs⟩) (hvs : vs0[2]? = some (.str file tf)) (hfile : ((P.main.file : Str) == file) = true)
    (hcell : K.lookup cc = some ⟨cl, cld, .cell (some (.ref C)), csl⟩) (hC : PySem.W.clsIn K C = some cdC) (hsub : PySem.W.mroIn K C (.ref C) = some true) (hB : PySem.W.subIn K (.ref C) (.type "ValueError") = some true)
    (hany : PySem.W.nsIn K cStatics "thirdparty.any" = some none) (hsup : PySem.W.ks_superIn K C C "__init__" = some (some (.builtin "ValueError.__init__"))) (hmgs : mg "super" = none)
    (htop : (P.main.scope.names.lookup ("super" : Str)).isSome = false) (T : OexC K C) (hno : PySem.W.findIn K (.ref C) "part" = some none)
    (hp : (params.posonlyargs ++ params.args).head? = some ar) (har : ar.arg = "self")
    (hlen : ta.length + tb.length ≤ 1000)
    (hev : ∀ L, ∃ pl, eval (.Call (.Attribute (.Call (.Name "super" p0) [] [] p1) "__init__" p2) [.JoinedStr [.Constant (.str ta) 0 q1, .FormattedValue (.Name "part" q2) (-1) none q3, .Constant (.str tb) 0 q4] q5] [] p3) (PySem.W.ksEnv qual scI L f (.ref cda) cc) = (do
      let ov ← attributeBase (.Call (.Name "super" p0) [] [] p1) "__init__" (PySem.W.ksEnv qual scI L f (.ref cda) cc) (eval (.Call (.Name "super" p0) [] [] p1) (PySem.W.ksEnv qual scI L f (.ref cda) cc))
      standAt p2.atName
      let (fx, first) ← holding [ov] (getMethod ov "__init__" pl)
      callWith p3 fx first (backTo p3 (starEach [.JoinedStr [.Constant (.str ta) 0 q1, .FormattedValue (.Name "part" q2) (-1) none q3, .Constant (.str tb) 0 q4] q5] (PySem.W.ksEnv qual scI L f (.ref cda) cc))) [])) :
    FnOk P w K mg base CX (k + 1) f (PySem.W.ksFn name qual params (bodyI ta tb p0 p1 p2 p3 p4 p5 p6 p7 p8 q1 q2 q3 q4 q5) scI dV kV doc pm an (.ref cda) ct cc) ["self", "part"] (spI K C "part") := by
  refine ⟨fun vs H Q E h => ?_, fun A outer s H args us vs Q E hr e0 hb r hsp => ?_⟩
  · obtain ⟨a, y, e, _⟩ := h
    subst e
    rfl
  · obtain ⟨a, y, rfl, hy, ha, hq⟩ := hsp
    cases r with
    | @cons _ u1 _ ur r1 rr =>
    cases rr with
    | @cons _ u2 _ ur2 r2 rr2 =>
    cases rr2
    obtain rfl : u1 = Value.ref a := r1
    obtain ⟨t2, rfl⟩ := (show ∃ t, u2 = Value.str y t from r2)
    have KX : K.In s.heap := e0.mod.kin.keeps fun b o e => (e0.bs b o e).1
    have lim : s.heap.NoLimit := e0.mod.nolimit.keeps fun b o e => (e0.bs b o e).1
    have hfr : ∀ x, scI.names.lookup x = some .cell ∨ scI.names.lookup x = some .free → x = "__class__" := fun x hx => by
      have key : (x, NameKind.cell) ∈ scI.names ∨ (x, NameKind.free) ∈ scI.names := hx.imp PySem.mem_of_lookup PySem.mem_of_lookup
      simp at key
      exact key
    refine ks_codeAny_call_defAt (binds := [("self", .ref a), ("part", .str y t2)]) hr.depth (KX _ _ lk) rfl lim (PySem.W.codeRec_of KX hcd) rfl hb (show ∀ x ∈ scI.names, x.2 ≠ NameKind.cell by decide) (fun x hx => ?_) (fun h0 hns hkp => ?_)
    · rcases List.mem_cons.mp hx with rfl | hx
      · rfl
      · rcases List.mem_cons.mp hx with rfl | hx
        · rfl
        · cases hx
    have I : Inv (cxS CX P w K mg base ["self", "part"] qual scI f (.ref cda) cc A outer s H E) [] [some (.ref a), some (.str y)] H { s with heap := h0, toks := s.toks + 2 } :=
      inv_super rfl hfr (by decide) rfl rfl hcell hr.hd e0 rfl ⟨t2, rfl⟩ hns hkp
    have hf := I.kIn _ _ lk
    have hcda := I.kIn _ _ hcode
    have hcc := I.kIn _ _ hcell
    obtain ⟨mb, hb1, hb2⟩ := I.mod.blt
    obtain ⟨t1, ho⟩ := exo_at I.hok ha
    obtain ⟨oD, hD1, hD2⟩ : ∃ oD, h0.get? C = some oD ∧ oD.data = .cls cdC := by
      unfold PySem.W.clsIn at hC
      split at hC
      · rename_i c d cd' sl hlk
        cases hC
        exact ⟨_, I.kIn _ _ hlk, rfl⟩
      · cases hC
    have haC : a ≠ C := fun z => by
      rw [z, hD1] at ho
      cases ho
      cases hD2
    obtain ⟨pl, hev'⟩ := hev s.heap.objs.size
    refine ks_wpAt_execs_cons (ks_wpAt_Expr_any (ks_wpAt_MethodCall (pl := pl) ?_ hev'))
    refine ks_wpAt_super_base (env := PySem.W.ksEnv qual scI s.heap.objs.size f (.ref cda) cc) rfl rfl rfl rfl hf rfl hp rfl hcda rfl hvs hfile htop ?_
    refine PySem.W.ks_loadName_global rfl rfl (PySem.Calls.loadGlobal_builtin (env := PySem.W.ksEnv qual scI s.heap.objs.size f (.ref cda) cc) (I.mod.glob.keeps I.bk) hmgs (hb1.keeps I.bk) ((hb2 _ (by decide)).trans PyProof.Rows.Boot.«super») ⟨rfl, ?_⟩)
    refine wpAny_loadName_free rfl rfl rfl ⟨_, hcc, rfl⟩ ?_
    rw [har]
    refine wpAny_loadName_local rfl rfl hns (v := .ref a) rfl ?_
    refine ks_wpAny_isType_cls hD1 hD2 ⟨rfl, ?_⟩
    refine ks_wpAny_call_super hD1 hD2 ho rfl (fun c z => by cases z) (PySem.W.looks_mroIn I.kIn hsub) (fun h1 e1 kk1 => ?_)
    have I1 := I.kept (t' := s.toks + 2) kk1
    have hnc : ∀ cd, ({ cls := .ref C, dict := none, data := .fields #[.ref t1, .none, .none, .none, .bool false, .none] } : Obj).data ≠ .cls cd := fun cd z => by cases z
    have IA : PySem.W.InstAt h1 a { cls := .ref C, dict := none, data := .fields #[.ref t1, .none, .none, .none, .bool false, .none] } C none := ⟨kk1 _ _ ho, rfl, rfl, trivial⟩
    have hsup' := hsup
    unfold PySem.W.ks_superIn at hsup'
    rw [hC] at hsup'
    refine PySem.W.kxs_getMethod PySem.W.kxs_ValueError e1 (PySem.W.looks_opaque I1.kIn hany) (l₀ := cdC.mro) (fun A Q E s k q => wpAny_bind ((PySem.W.looks_clsIn I1.kIn hC) A _ E s k (wpAny_pure q))) rfl I1.kIn hsup' (IA.type.andThen (PySem.W.looks_subIn I1.kIn hB)) haC rfl ?_
    have kk2 : ∀ b o, h1.get? b = some o → (h1.push (PySem.W.kxs_mw "ValueError.__init__" a)).get? b = some o := fun b o e => Heap.get?_push_of_some _ e
    have hu : (h1.push (PySem.W.kxs_mw "ValueError.__init__" a)).get? h1.objs.size = some (PySem.W.kxs_mw "ValueError.__init__" a) := Heap.get?_push_at rfl rfl
    have I2 := I1.kept (t' := s.toks + 2 + 1) kk2
    have I3 := I2.pins_of (pins' := [(h1.objs.size, PySem.W.kxs_mw "ValueError.__init__" a)]) (fun p hp => by
      rcases List.mem_cons.mp hp with rfl | hp
      · refine ⟨hu, I1.hok.fresh (Nat.le_refl _), Nat.ne_of_gt I1.lt, I1.nofs (Nat.le_refl _), fun v z => by cases z⟩
      · cases hp)
    refine PySem.W.kxs_callWith (i := "ValueError.__init__") (x := a) rfl (PySem.Calls.evalArgs_plain ?_)
    have ha2 : PA (cxS CX P w K mg base ["self", "part"] qual scI f (.ref cda) cc A outer s H E) [.JoinedStr [.Constant (.str ta) 0 q1, .FormattedValue (.Name "part" q2) (-1) none q3, .Constant (.str tb) 0 q4] q5]
        (tCons (fun σ H Q => tJs [tC (.str ta), tFmt (tVar 1), tC (.str tb)] Str.empty σ H fun out H1 => Q (.str out) H1) tNil) :=
      pa_cons (pe_joined (.cons pe_str (.cons (pe_fmt (pe_var rfl (.inl rfl))) (.cons pe_str .nil)))) pa_nil
    refine thn (ha2.run p3 _ _ _ H (fun vs H' => ∃ out : Str, vs = [.str out] ∧ H = H') I3 ?_) (fun us s4 h4 => ?_)
    · refine ⟨ta, rfl, ?_, .str y, rfl, .inl ⟨y, rfl, ?_, y, rfl, ?_, tb, rfl, ?_, _, rfl, rfl⟩⟩
      all_goals (simp only [Str.length_append, show Str.empty.length = 0 from rfl, sizeLine_eq]; omega)
    obtain ⟨vs, H4, I4, r4, out, rfl, rfl⟩ := h4
    have p4 := (I4.pin (h1.objs.size, PySem.W.kxs_mw "ValueError.__init__" a) (List.mem_append_right _ List.mem_cons_self)).1
    refine ⟨p4, ?_⟩
    refine call_wrap T I4 ha (show us.length ≤ sizeLine by rw [← r4.length, List.length_singleton, sizeLine_eq]; omega) p4 fun s5 I5 => ?_
    have I6 := I5.pins_of (pins' := []) (fun p hp => by cases hp)
    refine wpAt_of_wpAny ?_
    have p2' : PSs (cxS CX P w K mg base ["self", "part"] qual scI f (.ref cda) cc A outer s H E) [.Assign [.Attribute (.Name "self" p5) "part" p6] (.Name "part" p7) p8] (tOst K "part" (tVar 0) (tVar 1)) :=
      pss_one (ps_ost (pe_var rfl (.inl rfl)) (pe_var rfl (.inl rfl)))
    refine wpAny_mono (p2'.run [] s5 [some (.ref a), some (.str y)] H { nx := fun _ H' => Q .non H', rt := Q } I6 ⟨_, rfl, _, rfl, a, C, rfl, T, hno, .inl ⟨ha, hq⟩⟩) (fun fl s' hs => ?_) fun e s' hs => hs
    have fin : ∀ {σ' : L2.St} {H' : Hp} {v : V} {u : Value}, Inv (cxS CX P w K mg base ["self", "part"] qual scI f (.ref cda) cc A outer s H E) [] σ' H' s' → RelV v u → Q v H' → CE outer P w H s Q u s' :=
      fun {σ' H' v u} J rv q => ⟨v, H', J.os, J.bare, J.base, J.hok, rv, q⟩
    cases fl with
    | ret u =>
      obtain ⟨v, σ', H', J, rv, q⟩ := hs
      exact fin J rv q
    | next =>
      obtain ⟨σ', H', J, q⟩ := hs
      exact fin (v := V.non) (u := Value.none) J rfl q
    | brk =>
      obtain ⟨_, _, _, q⟩ := hs
      exact False.elim q
    | cont =>
      obtain ⟨_, _, _, q⟩ := hs
      exact False.elim q
end Nm
end

section
set_option Elab.async false
set_option linter.all false
set_option maxRecDepth 100000
set_option maxHeartbeats 1000000
namespace Nm
open PySem PySem.Spec PyProof.Rows L2

/-! ### raise -/
section
variable {X : Cx} {W : WX}
/-- raise C('..'), C's own __init__ keeping the text as part -/
@[simp] def sRaiseP (nm s : Str) : MS := fun env => .exc ⟨nm, [("part", .str s)]⟩ env
theorem ds_raiseP {x s : Str} {C fI : Addr} {k : Nat} {fd : FuncData} {ps : List Str} {j : Nat} {p p1 p2 pos : Pos} (hc : X.calm = true) (tk : Takes X W) (T : OexC X.K C) (iC : PySem.W.findIn X.K (.ref C) "__init__" = some (some (.ref fI))) (tI : PySem.W.typeIn X.K (.ref fI) = some (.type "function"))
    (F1 : FnOk X.prog X.w X.K X.mg X.base (L2.CX X.prog X.w) k fI fd ps (spI X.K C "part")) (hr : Room (k + 1) X.A) (hb : Binds X.K fd ps []) (hg : Gl X x) (hm : X.mg x = some (.ref C)) (hs : s.length ≤ 1000)
    (hdb : (x == ("__debug__" : Str)) = false := by decide) : DS X W (.Raise (some (.Call (.Name x p) [.Constant (.str s) j p1] [] p2)) none pos) (sRaiseP x s) := by
  have ha : PA X [.Constant (.str s) j p1] (tCons (tC (.str s)) tNil) := pa_cons pe_str pa_nil
  have pm : PMk X (.Call (.Name x p) [.Constant (.str s) j p1] [] p2) (tMkO C (spI X.K C "part") [] (tCons (tC (.str s)) tNil)) :=
    pmk_oex (CX := L2.CX X.prog X.w) T iC tI F1 hr hb .nil (passes_call tk fun _ _ _ _ z => z.elim) hg hm ha hdb
  refine ⟨_, ps_raise hc tk pm, fun G0 H0 G H σ env Dn R q => ?_⟩
  refine ⟨(show (1 : Nat) ≤ 1000 by omega), fun a hn => ⟨a, s, rfl, hs, upd_same, fun dx hd ne => ⟨rfl, dx, [("part", .str s)], upd_same, ?_, ?_, ?_⟩⟩⟩
  · rw [upd_ne ne, upd_same]
  · rw [upd_ne ne] at hd
    exact hd
  · rw [upd_ne ne] at hd
    have e : upd (del (upd (upd (upd H a (exo a C none)) dx (exd dx [("part", .str s)])) a (exo a C (some dx))) a) dx (.xd [("part", .str s)]) = upd H dx (.xd [("part", .str s)]) := by
      funext b
      by_cases h1 : b = dx
      · subst h1
        rw [upd_same, upd_same]
      · rw [upd_ne h1, upd_ne h1]
        by_cases h2 : b = a
        · subst h2
          rw [del_same, hn]
        · rw [del_ne h2, upd_ne h2, upd_ne h1, upd_ne h2]
    rw [e]
    refine q σ (upd G dx (.xd [("part", .str s)])) _ (.ref C) (some dx) (R.grow (Gr.new R.gh hd)) (same_upd (R.gh.free hd)) ⟨hm, .inr ⟨dx, _, rfl, upd_same, rfl, .cons (.str s) .nil⟩⟩
/-- raise C('..'), C without an __init__ of its own -/
@[simp] def sRaiseT (nm : Str) : MS := fun env => .exc ⟨nm, []⟩ env
theorem ds_raiseT {B newId initId : String} {bmB : List Value} {x s : Str} {C : Addr} {j : Nat} {p p1 p2 pos : Pos} (hc : X.calm = true) (tk : Takes X W) (F : ExcBaseFacts B newId initId bmB) (q : PySem.W.excIn X.K C bmB newId = true) (hm : X.mg x = some (.ref C)) (kC : PySem.W.keepIn X.K (.ref C) = true) (r : Raises X (.ref C)) (hg : Gl X x)
    (hdb : (x == ("__debug__" : Str)) = false := by decide) : DS X W (.Raise (some (.Call (.Name x p) [.Constant (.str s) j p1] [] p2)) none pos) (sRaiseT x) :=
  ⟨_, ps_raise hc tk (pmk_own F q hm kC r hg hdb), fun G0 H0 G H σ env Dn R q => q σ G H (.ref C) none R (Same.refl _) ⟨hm, .inl ⟨rfl, rfl⟩⟩⟩
end

/-! ### isinstance of a caught exception, with or without a dict -/
def rIs (K : PySem.W.Frag) (a : Addr) (cls : Value) (d : Option Addr) : List V → Hp → VK → Prop := fun xs H Q => ∃ (C : Addr) (c : V) (cv : Value) (b : Bool), cls = .ref C ∧ ExcC K C ∧ xs = [.ref a, c] ∧ (∀ u, RelV c u → u = cv) ∧
  PySem.W.kitOne K (.ref C) cv = some b ∧ (d = none ∨ ∃ dd kvs, d = some dd ∧ H dd = some (.xd kvs)) ∧ Q (.bl b) H
theorem call_is {X : Cx} {a : Addr} {oe : Obj} {pn : List (Addr × Obj)} {cls : Value} {d : Option Addr} (hz : Zc cls d oe) (hf : ∃ vs, oe.data = .fields vs) : CallR (X.suite a ((a, oe) :: pn)) (.builtin "isinstance") (rIs X.K a cls d) := by
  intro pins s σ H xs us Q I r h
  obtain ⟨C, c, cv, b, rfl, T, rfl, hcv, e, hd, q⟩ := h
  cases r with
  | cons rx rr =>
  cases rr with
  | cons rt rr =>
  cases rr
  cases rx
  have ec := hcv _ rt
  subst ec
  obtain ⟨hget, _⟩ := I.pin (a, oe) (List.mem_append_left _ List.mem_cons_self)
  obtain ⟨vs, hv⟩ := hf
  have hno : PySem.W.notCls oe = true := by
    unfold PySem.W.notCls
    rw [hv] <;> rfl
  have main : ∀ od : Option Obj, PySem.W.InstAt s.heap a oe C od → wpAny (model X.prog X.w) (X.suite a ((a, oe) :: pn)).A (call (.builtin "isinstance") [.ref a, _]) (EP (X.suite a ((a, oe) :: pn)) pins σ Q) (X.suite a ((a, oe) :: pn)).xe s := fun od J =>
    PySem.W.kia_one (PySem.W.kitx_exc (od := od) (by obtain ⟨cd, hcd, _⟩ := PySem.W.any_some T.hd; rw [hcd]; rfl) T.hg T.hk T.hs T.ha T.hn T.ht T.hm) I.kIn J e (fun z => nomatch z) fun tk => ⟨.bl b, H, I.kept (t' := tk) fun _ _ z => z, rfl, q⟩
  rcases hd with rfl | ⟨dd, kvs, rfl, hdd⟩
  · exact main none ⟨hget, hz.1, hno, by rw [hz.2]; trivial⟩
  · have hx : ObjOk X.prog X.w H s.heap dd (.xd kvs) := I.hok dd _ hdd
    obtain ⟨mA, hns, hr⟩ := hx
    obtain ⟨od, ho, hl⟩ := lookIn_ns hns
    exact main (some od) ⟨hget, hz.1, hno, by rw [hz.2]; exact ho⟩

/-! ### an except suite: slot i holds the exception -/
structure HE (X : Cx) (i : Nat) (e : Expr) (m : Exc → Option D) : Prop where
  run : ∃ t : Addr → Value → Option Addr → TE, (∀ (a : Addr) (oe : Obj) (cls : Value) (d : Option Addr) (pn : List (Addr × Obj)), Zc cls d oe → (∃ vs, oe.data = .fields vs) → PE (X.suite a ((a, oe) :: pn)) e (t a cls d)) ∧
    ∀ (a : Addr) (cls : Value) (d : Option Addr) (x : Exc) (dd : D) (G0 H0 G H : Hp) (σ : L2.St) (env : En) (Q : VK), RepS X.K G0 H0 G H σ env → σ[i]? = some (some (.ref a)) → ExcR X.K X.mg G H x cls d → m x = some dd →
      (∀ v G2 H2, RepS X.K G0 H0 G2 H2 σ env → Same G G2 → Rp X.K G2 v dd → Q v H2) → t a cls d σ H Q
structure HT (X : Cx) (i : Nat) (e : Expr) (m : Exc → Option Bool) : Prop where
  run : ∃ t : Addr → Value → Option Addr → TT, (∀ (a : Addr) (oe : Obj) (cls : Value) (d : Option Addr) (pn : List (Addr × Obj)), Zc cls d oe → (∃ vs, oe.data = .fields vs) → PT (X.suite a ((a, oe) :: pn)) e (t a cls d)) ∧
    ∀ (a : Addr) (cls : Value) (d : Option Addr) (x : Exc) (b : Bool) (G0 H0 G H : Hp) (σ : L2.St) (env : En) (Q : Bool → Hp → Prop), RepS X.K G0 H0 G H σ env → σ[i]? = some (some (.ref a)) → ExcR X.K X.mg G H x cls d → m x = some b →
      (∀ G2 H2, RepS X.K G0 H0 G2 H2 σ env → Same G G2 → Q b H2) → t a cls d σ H Q
structure HW (X : Cx) (i : Nat) (e : Expr) (m : Exc → Option Bool) : Prop where
  run : ∃ t : Addr → Value → Option Addr → TT, (∀ (a : Addr) (oe : Obj) (cls : Value) (d : Option Addr) (pn : List (Addr × Obj)), Zc cls d oe → (∃ vs, oe.data = .fields vs) → PW (X.suite a ((a, oe) :: pn)) e (t a cls d)) ∧
    ∀ (a : Addr) (cls : Value) (d : Option Addr) (x : Exc) (b : Bool) (G0 H0 G H : Hp) (σ : L2.St) (env : En) (Q : Bool → Hp → Prop), RepS X.K G0 H0 G H σ env → σ[i]? = some (some (.ref a)) → ExcR X.K X.mg G H x cls d → m x = some b →
      (∀ G2 H2, RepS X.K G0 H0 G2 H2 σ env → Same G G2 → Q b H2) → t a cls d σ H Q
section
variable {X : Cx} {i : Nat} {e e1 e2 : Expr} {rest : List Expr} {pos : Pos} {m m1 m2 : Exc → Option D} {b1 b2 : Exc → Option Bool}
theorem he_str {s : Str} {j : Nat} : HE X i (.Constant (.str s) j pos) (fun _ => some (.str s)) :=
  ⟨fun _ _ _ => tC (.str s), fun _ _ _ _ _ _ _ => pe_str, fun a cls d x dd G0 H0 G H σ env Q R ei er em k => by
    cases em
    exact k _ G H R (Same.refl _) (.str s)⟩
theorem he_bl {b : Bool} {j : Nat} : HE X i (.Constant (.bool b) j pos) (fun _ => some (.bl b)) :=
  ⟨fun _ _ _ => tC (.bl b), fun _ _ _ _ _ _ _ => pe_bl, fun a cls d x dd G0 H0 G H σ env Q R ei er em k => by
    cases em
    exact k _ G H R (Same.refl _) (.bl b)⟩
/-- e.f of an exception of the class nm -/
theorem he_fld {nm n : Str} {C : Addr} {x : Str} {p : Pos} (T : XfC X.K C) (hno : PySem.W.findIn X.K (.ref C) n = some none) (hm : X.mg nm = some (.ref C)) (hv : ∀ (a : Addr) (pn : List (Addr × Obj)), PE (X.suite a pn) (.Name x p) (tVar i))
    (hb : attributeBase (.Name x p) n X.env (eval (.Name x p) X.env) = eval (.Name x p) X.env := by rfl) : HE X i (.Attribute (.Name x p) n pos) (fun ex => if ex.cls = nm then ex.fs.lookup n else none) := by
  refine ⟨fun a cls d => tXf a cls d C n (tVar i), fun a oe cls d pn hz hf => pe_xf T hno hz hf (hv _ _) hb, fun a cls d ex dd G0 H0 G H σ env Q R ei er em k => ?_⟩
  split at em
  · rename_i hc
    obtain ⟨h1, h2⟩ := er
    rw [hc, hm] at h1
    cases h1
    rcases h2 with ⟨h2, _⟩ | ⟨ad, kvs, rfl, hg, hk, hr⟩
    · rw [h2] at em
      cases em
    · have key : ∀ (kvs : List (Str × V)) (fs : List (Str × D)), kvs.map (·.1) = fs.map (·.1) → Rps X.K G (kvs.map (·.2)) (fs.map (·.2)) → fs.lookup n = some dd → ∃ v, kvs.lookup n = some v ∧ Rp X.K G v dd := by
        intro kvs
        induction kvs with
        | nil =>
          intro fs h1 _ h3
          cases fs with
          | nil => cases h3
          | cons => cases h1
        | cons p kvs ih =>
          intro fs h1 h2 h3
          cases fs with
          | nil => cases h1
          | cons q fs =>
            obtain ⟨pk, pv⟩ := p
            obtain ⟨qk, qv⟩ := q
            simp only [List.map_cons, List.cons.injEq] at h1
            obtain ⟨rfl, h1⟩ := h1
            simp only [List.map_cons] at h2
            cases h2 with
            | cons ra rb =>
            simp only [List.lookup_cons] at h3 ⊢
            cases hq : n == pk with
            | true =>
              rw [hq] at h3
              cases h3
              exact ⟨pv, rfl, ra⟩
            | false =>
              rw [hq] at h3
              exact ih fs h1 rb h3
      obtain ⟨v, hv1, hv2⟩ := key kvs ex.fs hk hr em
      exact ⟨_, ei, rfl, rfl, ad, kvs, v, rfl, R.gh _ _ hg, hv1, k v G H R (Same.refl _) hv2⟩
  · cases em
/-- isinstance(e, c): tab tells the answer by the class's name -/
theorem he_is {x c : Str} {p p1 p2 : Pos} {tab : List (Str × Bool)} {cv : V} {cu : Value} (hg : Gl X "isinstance") (hmi : X.mg "isinstance" = none) (hv : ∀ (a : Addr) (pn : List (Addr × Obj)), PE (X.suite a pn) (.Name x p1) (tVar i))
    (hc : ∀ (a : Addr) (pn : List (Addr × Obj)), PE (X.suite a pn) (.Name c p2) (tC cv)) (hcv : ∀ u, RelV cv u → u = cu)
    (ht : ∀ q ∈ tab, ∃ C, X.mg q.1 = some (.ref C) ∧ ExcC X.K C ∧ PySem.W.kitOne X.K (.ref C) cu = some q.2) : HE X i (.Call (.Name "isinstance" p) [.Name x p1, .Name c p2] [] pos) (fun ex => (tab.lookup ex.cls).map D.bl) := by
  refine ⟨fun a cls d => tCB (rIs X.K a cls d) (tCons (tVar i) (tCons (tC cv) tNil)), fun a oe cls d pn hz hf => ?_, fun a cls d ex dd G0 H0 G H σ env Q R ei er em k => ?_⟩
  · exact pe_callB (X := X.suite a ((a, oe) :: pn)) (call_is hz hf) hg hmi PyProof.Rows.Boot.«isinstance» (pa_cons (hv _ _) (pa_cons (hc _ _) pa_nil))
  · cases hb : tab.lookup ex.cls with
    | none =>
      rw [hb] at em
      cases em
    | some b =>
      rw [hb] at em
      cases em
      obtain ⟨C, h1, h2, h3⟩ := ht _ (PySem.mem_of_lookup hb)
      obtain ⟨e1, e2⟩ := er
      have h1' : X.mg ex.cls = some (.ref C) := h1
      rw [h1'] at e1
      cases e1
      refine ⟨_, ei, C, cv, cu, b, rfl, h2, rfl, hcv, h3, ?_, k _ G H R (Same.refl _) (.bl b)⟩
      rcases e2 with ⟨_, e2⟩ | ⟨ad, kvs, e2, hg2, _⟩
      · exact .inl e2
      · exact .inr ⟨ad, kvs, e2, R.gh _ _ hg2⟩
theorem he_one {op : BoolOp} (h : HE X i e m) : HE X i (.BoolOp op [e] pos) m := by
  obtain ⟨t, p, k⟩ := h.run
  exact ⟨t, fun a oe cls d pn hz hf => pe_one (p a oe cls d pn hz hf), k⟩
theorem he_and (ha : HE X i e m) (hb : HE X i (.BoolOp .And (e1 :: rest) pos) m1) : HE X i (.BoolOp .And (e :: e1 :: rest) pos) (fun x => match m x with
    | some (.bl true) => m1 x
    | some (.bl false) => some (.bl false)
    | _ => none) := by
  obtain ⟨t, p, k⟩ := ha.run
  obtain ⟨u, p2, k2⟩ := hb.run
  refine ⟨fun a cls d => tAndV (t a cls d) (u a cls d), fun a oe cls d pn hz hf => pe_and (p a oe cls d pn hz hf) (p2 a oe cls d pn hz hf), fun a cls d x dd G0 H0 G H σ env Q R ei er em kk => ?_⟩
  split at em
  · rename_i h1
    refine k a cls d x _ G0 H0 G H σ env _ R ei er h1 fun v G2 H2 R2 s2 rv => ?_
    cases rv
    exact ⟨true, rfl, k2 a cls d x dd G0 H0 G2 H2 σ env Q R2 ei (er.mono s2) em fun v G3 H3 R3 s3 r3 => kk v G3 H3 R3 (s2.trans s3) r3⟩
  · rename_i h1
    cases em
    refine k a cls d x _ G0 H0 G H σ env _ R ei er h1 fun v G2 H2 R2 s2 rv => ?_
    cases rv
    exact ⟨false, rfl, kk _ G2 H2 R2 s2 (.bl false)⟩
  · cases em
theorem he_not (ha : HE X i e m) : HE X i (.UnaryOp .Not e pos) (fun x => match m x with
    | some (.bl b) => some (.bl (!b))
    | _ => none) := by
  obtain ⟨t, p, k⟩ := ha.run
  refine ⟨fun a cls d => tNotV (t a cls d), fun a oe cls d pn hz hf => pe_not (p a oe cls d pn hz hf), fun a cls d x dd G0 H0 G H σ env Q R ei er em kk => ?_⟩
  split at em
  · rename_i b h1
    cases em
    refine k a cls d x _ G0 H0 G H σ env _ R ei er h1 fun v G2 H2 R2 s2 rv => ?_
    cases rv
    exact ⟨b, rfl, kk _ G2 H2 R2 s2 (.bl _)⟩
  · cases em
theorem ht_of (ha : HE X i e m) (he : ∀ whole, isTrue e X.env whole = (do let v ← whole; standAt e.pos; holding [v] (truthy v)) := by intro _; rfl) : HT X i e (fun x => match m x with
    | some (.bl b) => some b
    | _ => none) := by
  obtain ⟨t, p, k⟩ := ha.run
  refine ⟨fun a cls d => tTest (t a cls d), fun a oe cls d pn hz hf => pt_val (p a oe cls d pn hz hf) he, fun a cls d x b G0 H0 G H σ env Q R ei er em kk => ?_⟩
  split at em
  · rename_i b' h1
    cases em
    refine k a cls d x _ G0 H0 G H σ env _ R ei er h1 fun v G2 H2 R2 s2 rv => ?_
    cases rv
    exact ⟨_, rfl, kk G2 H2 R2 s2⟩
  · cases em
theorem ht_not (ha : HT X i e b1) : HT X i (.UnaryOp .Not e pos) (fun x => (b1 x).map (!·)) := by
  obtain ⟨t, p, k⟩ := ha.run
  refine ⟨fun a cls d => tNot (t a cls d), fun a oe cls d pn hz hf => pt_not (p a oe cls d pn hz hf), fun a cls d x b G0 H0 G H σ env Q R ei er em kk => ?_⟩
  cases h1 : b1 x with
  | none =>
    rw [h1] at em
    cases em
  | some c =>
    rw [h1] at em
    cases em
    exact k a cls d x _ G0 H0 G H σ env _ R ei er h1 kk
theorem hw_and1 (ha : HT X i e b1) : HW X i (.BoolOp .And [e] pos) b1 := by
  obtain ⟨t, p, k⟩ := ha.run
  exact ⟨t, fun a oe cls d pn hz hf => pw_and1 (p a oe cls d pn hz hf), k⟩
theorem hw_and (ha : HT X i e b1) (hb : HW X i (.BoolOp .And (e1 :: rest) pos) b2) : HW X i (.BoolOp .And (e :: e1 :: rest) pos) (fun x => (b1 x).bind fun c => if c = true then b2 x else some false) := by
  obtain ⟨t, p, k⟩ := ha.run
  obtain ⟨u, p2, k2⟩ := hb.run
  refine ⟨fun a cls d => tAnd (t a cls d) (u a cls d), fun a oe cls d pn hz hf => pw_and (p a oe cls d pn hz hf) (p2 a oe cls d pn hz hf), fun a cls d x b G0 H0 G H σ env Q R ei er em kk => ?_⟩
  cases h1 : b1 x with
  | none =>
    rw [h1] at em
    cases em
  | some c =>
    rw [h1] at em
    refine k a cls d x _ G0 H0 G H σ env _ R ei er h1 fun G2 H2 R2 s2 => ?_
    cases c with
    | true => exact k2 a cls d x b G0 H0 G2 H2 σ env Q R2 ei (er.mono s2) em fun G3 H3 R3 s3 => kk G3 H3 R3 (s2.trans s3)
    | false =>
      cases em
      exact kk G2 H2 R2 s2
theorem HW.ht (h : HW X i e b1) : HT X i e b1 := by
  obtain ⟨t, p, k⟩ := h.run
  exact ⟨t, fun a oe cls d pn hz hf => (p a oe cls d pn hz hf).pt, k⟩
theorem he_if (hc : HT X i e b1) (ha : HE X i e1 m1) (hb : HE X i e2 m2) : HE X i (.IfExp e e1 e2 pos) (fun x => (b1 x).bind fun c => if c = true then m1 x else m2 x) := by
  obtain ⟨t, p, k⟩ := hc.run
  obtain ⟨u, p2, k2⟩ := ha.run
  obtain ⟨w, p3, k3⟩ := hb.run
  refine ⟨fun a cls d => tIf (t a cls d) (u a cls d) (w a cls d), fun a oe cls d pn hz hf => pe_ifExp (p a oe cls d pn hz hf) (p2 a oe cls d pn hz hf) (p3 a oe cls d pn hz hf), fun a cls d x dd G0 H0 G H σ env Q R ei er em kk => ?_⟩
  cases h1 : b1 x with
  | none =>
    rw [h1] at em
    cases em
  | some c =>
    rw [h1] at em
    refine k a cls d x _ G0 H0 G H σ env _ R ei er h1 fun G2 H2 R2 s2 => ?_
    cases c with
    | true => exact k2 a cls d x dd G0 H0 G2 H2 σ env Q R2 ei (er.mono s2) em fun v G3 H3 R3 s3 => kk v G3 H3 R3 (s2.trans s3)
    | false => exact k3 a cls d x dd G0 H0 G2 H2 σ env Q R2 ei (er.mono s2) em fun v G3 H3 R3 s3 => kk v G3 H3 R3 (s2.trans s3)
/-- (e1, e2) -/
theorem he_tup2 {x1 : Nat} (ha : HE X i e1 m1) (hb : HE X i e2 m2) (s1 : starEach [e1, e2] X.env = (false, eval e1 X.env) :: starEach [e2] X.env := by rfl) (s2 : starEach [e2] X.env = (false, eval e2 X.env) :: starEach [] X.env := by rfl) :
    HE X i (.Tuple [e1, e2] x1 pos) (fun x => (m1 x).bind fun d1 => (m2 x).map fun d2 => .tup [d1, d2]) := by
  obtain ⟨t, p, k⟩ := ha.run
  obtain ⟨u, p2, k2⟩ := hb.run
  refine ⟨fun a cls d => tTup (tCons (t a cls d) (tCons (u a cls d) tNil)), fun a oe cls d pn hz hf => pe_tup (pa_cons (p a oe cls d pn hz hf) (pa_cons (p2 a oe cls d pn hz hf) pa_nil s2) s1), fun a cls d x dd G0 H0 G H σ env Q R ei er em kk => ?_⟩
  cases h1 : m1 x with
  | none =>
    rw [h1] at em
    cases em
  | some d1 =>
    cases h2 : m2 x with
    | none =>
      rw [h1, h2] at em
      cases em
    | some d2 =>
      rw [h1, h2] at em
      cases em
      refine k a cls d x d1 G0 H0 G H σ env _ R ei er h1 fun v1 G2 H2 R2 s2 r1 => ?_
      refine k2 a cls d x d2 G0 H0 G2 H2 σ env _ R2 ei (er.mono s2) h2 fun v2 G3 H3 R3 s3 r2 => ?_
      refine ⟨(show (2 : Nat) ≤ sizeLine by rw [sizeLine_eq]; omega), fun l hl => ?_⟩
      exact kk _ _ _ (R3.grow (Gr.new R3.gh hl)) ((s2.trans s3).trans (same_upd (R3.gh.free hl))) (.tup (.inl (.inl upd_same)) ((Rps.cons (r1.mono s3) (.cons r2 .nil)).mono (same_upd (R3.gh.free hl))))
end
/-- a suite that returns or falls through -/
def HEnd (X : Cx) (G0 H0 G : Hp) (σ : L2.St) (env : En) (r : Option D) (Dn : Ends) : Prop :=
  match r with
  | some dd => ∀ v G2 H2, RepS X.K G0 H0 G2 H2 σ env → Rp X.K G2 v dd → Dn.rt v H2
  | none => ∀ G2 H2, RepS X.K G0 H0 G2 H2 σ env → Same G G2 → Dn.nx σ H2
structure HS (X : Cx) (i : Nat) (st : Stmt) (m : Exc → Option (Option D)) : Prop where
  run : ∃ t : Addr → Value → Option Addr → TS, (∀ (a : Addr) (oe : Obj) (cls : Value) (d : Option Addr) (pn : List (Addr × Obj)), Zc cls d oe → (∃ vs, oe.data = .fields vs) → PS (X.suite a ((a, oe) :: pn)) st (t a cls d)) ∧
    ∀ (a : Addr) (cls : Value) (d : Option Addr) (x : Exc) (r : Option D) (G0 H0 G H : Hp) (σ : L2.St) (env : En) (Dn : Ends), RepS X.K G0 H0 G H σ env → σ[i]? = some (some (.ref a)) → ExcR X.K X.mg G H x cls d → m x = some r → HEnd X G0 H0 G σ env r Dn → t a cls d Dn σ H
structure HB (X : Cx) (i : Nat) (st : List Stmt) (m : Exc → Option (Option D)) : Prop where
  run : ∃ t : Addr → Value → Option Addr → TS, (∀ (a : Addr) (oe : Obj) (cls : Value) (d : Option Addr) (pn : List (Addr × Obj)), Zc cls d oe → (∃ vs, oe.data = .fields vs) → PSs (X.suite a ((a, oe) :: pn)) st (t a cls d)) ∧
    ∀ (a : Addr) (cls : Value) (d : Option Addr) (x : Exc) (r : Option D) (G0 H0 G H : Hp) (σ : L2.St) (env : En) (Dn : Ends), RepS X.K G0 H0 G H σ env → σ[i]? = some (some (.ref a)) → ExcR X.K X.mg G H x cls d → m x = some r → HEnd X G0 H0 G σ env r Dn → t a cls d Dn σ H
section
variable {X : Cx} {i : Nat} {e c : Expr} {st : Stmt} {A B rest : List Stmt} {pos : Pos} {m : Exc → Option D} {b1 : Exc → Option Bool} {n n1 n2 : Exc → Option (Option D)}
theorem HEnd.mono {G0 H0 G G' : Hp} {σ : L2.St} {env : En} {r : Option D} {Dn : Ends} (h : HEnd X G0 H0 G σ env r Dn) (s : Same G G') : HEnd X G0 H0 G' σ env r Dn := by
  cases r with
  | some d => exact h
  | none => exact fun G2 H2 R s2 => h G2 H2 R (s.trans s2)
theorem hs_ret (h : HE X i e m) : HS X i (.Return (some e) pos) (fun x => (m x).map some) := by
  obtain ⟨t, p, k⟩ := h.run
  refine ⟨fun a cls d => tRet (t a cls d), fun a oe cls d pn hz hf => ps_ret (p a oe cls d pn hz hf), fun a cls d x r G0 H0 G H σ env Dn R ei er em q => ?_⟩
  cases h1 : m x with
  | none =>
    rw [h1] at em
    cases em
  | some dd =>
    rw [h1] at em
    cases em
    exact k a cls d x dd G0 H0 G H σ env _ R ei er h1 fun v G2 H2 R2 s2 rv => q v G2 H2 R2 rv
theorem hb_nil : HB X i [] (fun _ => some none) :=
  ⟨fun _ _ _ => tNext, fun _ _ _ _ _ _ _ => pss_nil, fun a cls d x r G0 H0 G H σ env Dn R ei er em q => by
    cases em
    exact q G H R (Same.refl _)⟩
theorem hb_cons (h : HS X i st n) (h2 : HB X i rest n1) : HB X i (st :: rest) (fun x => (n x).bind fun r => match r with
    | some d => some (some d)
    | none => n1 x) := by
  obtain ⟨t, p, k⟩ := h.run
  obtain ⟨u, p2, k2⟩ := h2.run
  refine ⟨fun a cls d => tSeq (t a cls d) (u a cls d), fun a oe cls d pn hz hf => pss_cons (p a oe cls d pn hz hf) (p2 a oe cls d pn hz hf), fun a cls d x r G0 H0 G H σ env Dn R ei er em q => ?_⟩
  cases h1 : n x with
  | none =>
    rw [h1] at em
    cases em
  | some r1 =>
    rw [h1] at em
    refine k a cls d x r1 G0 H0 G H σ env _ R ei er h1 ?_
    cases r1 with
    | some dd =>
      cases em
      exact q
    | none => exact fun G2 H2 R2 s2 => k2 a cls d x r G0 H0 G2 H2 σ env Dn R2 ei (er.mono s2) em (q.mono s2)
theorem hs_if (hc : HT X i c b1) (ha : HB X i A n1) (hb : HB X i B n2) : HS X i (.If c A B pos) (fun x => (b1 x).bind fun b => if b = true then n1 x else n2 x) := by
  obtain ⟨t, p, k⟩ := hc.run
  obtain ⟨u, p2, k2⟩ := ha.run
  obtain ⟨w, p3, k3⟩ := hb.run
  refine ⟨fun a cls d => tIfS (t a cls d) (u a cls d) (w a cls d), fun a oe cls d pn hz hf => ps_if (p a oe cls d pn hz hf) (p2 a oe cls d pn hz hf) (p3 a oe cls d pn hz hf), fun a cls d x r G0 H0 G H σ env Dn R ei er em q => ?_⟩
  cases h1 : b1 x with
  | none =>
    rw [h1] at em
    cases em
  | some b =>
    rw [h1] at em
    refine k a cls d x b G0 H0 G H σ env _ R ei er h1 fun G2 H2 R2 s2 => ?_
    cases b with
    | true => exact k2 a cls d x r G0 H0 G2 H2 σ env Dn R2 ei (er.mono s2) em (q.mono s2)
    | false => exact k3 a cls d x r G0 H0 G2 H2 σ env Dn R2 ei (er.mono s2) em (q.mono s2)
end

/-! ### try -/
def cS (X : Cx) (W : WX) (m : MS) : TS := fun Dn σ H => ∃ G0 H0 G env, RepS X.K G0 H0 G H σ env ∧ PostS X W G0 H0 G (m env) Dn
theorem DB.canon {X : Cx} {W : WX} {st : List Stmt} {m : MS} (h : DB X W st m) : PSs X st (cS X W m) := by
  obtain ⟨t, p, k⟩ := h.run
  exact ⟨fun pins s σ H Dn I ⟨G0, H0, G, env, R, q⟩ => p.run pins s σ H Dn I (k G0 H0 G H σ env Dn R q)⟩
def sTry (i : Nat) (tk : List (Str × Bool)) (mb : MS) (mh : Exc → Option (Option D)) : MS := fun env => match mb env with
  | .exc x e => match tk.lookup x.cls with
    | some true => if i < e.length then match mh x with
        | some (some d) => .rt (.sh d) (e.set i .no)
        | some none => .nx (e.set i .no)
        | none => .bad
      else .bad
    | some false => .exc x e
    | none => .bad
  | r => r
theorem ds_try {X : Cx} {W : WX} {i : Nat} {x n : Str} {c : Value} {body suite : List Stmt} {b0 : Stmt} {np pos pos' : Pos} {mb : MS} {mh : Exc → Option (Option D)} {tk : List (Str × Bool)} (hs : X.stack = X.env :: X.outer) (hf : X.env.frame = some X.env.locals) (hN : X.N.Nodup) (hi : X.N[i]? = some n) (hln : X.env.kindOf n = some .local)
    (hc : Names X x c) (ht : Takes X W) (htk : ∀ q ∈ tk, ∃ cv, X.mg q.1 = some cv ∧ PySem.W.exmOne X.K cv c = some q.2)
    (hb : ∀ (W' : WX) (pn : List (Addr × Obj)) (xe : Value → Shared → Prop), Takes (X.tr pn xe) W' → PassesOwn (model X.prog X.w) X.A X.env xe → DB (X.tr pn xe) W' body mb) (hh : HB X i (b0 :: suite) mh) :
    DS X W (.Try body [.ExceptHandler (some (.Name x np)) (some n) (b0 :: suite) pos'] [] [] pos) (sTry i tk mb mh) := by
  obtain ⟨t, p, k⟩ := hh.run
  refine ⟨_, ps_try_as (tb := fun W' => cS X W' mb) (ts := t) (Wout := W) hs hf hN hi hln hc ht (fun W' pn xe h1 h2 => (hb W' pn xe h1 h2).canon) (fun a oe cls d pn hz hfs => p a oe cls d pn hz hfs), fun G0 H0 G H σ env Dn R q => ?_⟩
  refine ⟨G0, H0, G, env, R, ?_⟩
  unfold sTry at q
  generalize hr : mb env = r at q
  cases r with
  | nx e => exact q
  | rt y e =>
    cases y with
    | sh d => exact q
    | ow ds => exact q
  | bk e => exact q
  | ct e => exact q
  | bad => exact q
  | exc y e =>
    dsimp only at q
    refine fun σ2 G2 H2 cl od R2 s2 er => ?_
    cases hl : tk.lookup y.cls with
    | none =>
      rw [hl] at q
      exact q.elim
    | some b =>
      obtain ⟨cv, h1, h2⟩ := htk _ (PySem.mem_of_lookup hl)
      have h1' : X.mg y.cls = some cv := h1
      have h3 := er.1
      rw [h1'] at h3
      cases h3
      rw [hl] at q
      cases b with
      | false => exact ⟨false, h2, fun z => Bool.noConfusion z, fun _ => q σ2 G2 H2 _ od R2 s2 er⟩
      | true =>
        refine ⟨true, h2, fun _ a ha => ?_, fun z => Bool.noConfusion z⟩
        dsimp only at q
        split at q
        case isFalse => exact q.elim
        rename_i hie
        have hiσ : i < σ2.length := by
          rw [← R2.len]
          exact hie
        have R3 : RepS X.K G0 H0 G2 H2 (σ2.set i (some (.ref a))) (e.set i .no) := R2.setNo
        cases hm : mh y with
        | none =>
          rw [hm] at q
          exact q.elim
        | some r =>
          rw [hm] at q
          refine k a _ od y r G0 H0 G2 H2 _ (e.set i .no) _ R3 (by rw [List.getElem?_set_self hiσ]) er hm ?_
          cases r with
          | some d => exact fun v G4 H4 R4 rv => q _ G4 H4 v R4 rv
          | none =>
            refine fun G4 H4 R4 s4 => ?_
            refine q _ G4 H4 ?_ (s2.trans s4)
            have R5 := R4.setNo (i := i) (o := none)
            have e5 : (e.set i Cell.no).set i Cell.no = e.set i Cell.no := List.set_set ..
            rw [e5] at R5
            exact R5
end Nm
end

section
set_option Elab.async false
set_option linter.all false
set_option maxRecDepth 100000
set_option maxHeartbeats 1000000
namespace Nm
open PySem PySem.Spec PyProof.Rows L2

/-! ### comprehensions of two clauses -/
def cI (X : Cx) (m : MA) : TI := fun σ H Rw => ∃ G0 H0 G env, RepS X.K G0 H0 G H σ env ∧ PostE X wF G0 H0 σ G (m env) (fun ds _ G2 H2 => ∀ J, ItD X.K G2 J ds → Rw J H2)
theorem DI.canon {X : Cx} {tg iter : Expr} {m : MA} (h : DI X wF tg iter m) : PI X tg iter (cI X m) := by
  obtain ⟨t, p, k⟩ := h.run
  exact ⟨fun pins s σ H Rw I ⟨G0, H0, G, env, R, q⟩ => p.run pins s σ H Rw I (k G0 H0 G H σ env Rw R q)⟩
def runLc2 (g : D → En → Option En) (t : MT) (vs : List Nat) (mi1 : MA) (g1 : D → En → Option En) (t1 : MT) (el : ME) (vs1 : List Nat) : List D → En → Res (List D)
  | [], e => .ok [] e
  | d :: ds, e => match g d e with
    | none => .bad
    | some e1 => match t e1 with
      | .ok b e2 => if b = true then match mi1 e2 with
          | .ok ds1 e3 => match runLc g1 t1 el vs1 ds1 (wipeE e3 vs1) with
            | .ok ys e4 => (runLc2 g t vs mi1 g1 t1 el vs1 ds (wipeE e4 vs)).bind fun zs e5 => .ok (ys ++ zs) e5
            | _ => .bad
          | _ => .bad
        else runLc2 g t vs mi1 g1 t1 el vs1 ds (wipeE e2 vs)
      | _ => .bad
@[simp] def mLc2 (g : D → En → Option En) (mi : MA) (t : MT) (vs : List Nat) (mi1 : MA) (g1 : D → En → Option En) (t1 : MT) (el : ME) (vs1 : List Nat) : MA := fun env => (mi env).bind fun ds e =>
  if noOw e vs = true then match runLc2 g t vs mi1 g1 t1 el vs1 ds (wipeE e vs) with
    | .ok ys e4 => if ys.length ≤ sizeLine then .ok ys (restE e e4 vs) else .bad
    | _ => .bad
  else .bad
theorem bind_ok {α β : Type} {r : Res α} {f : α → En → Res β} {b : β} {e : En} (h : r.bind f = .ok b e) : ∃ a e1, r = .ok a e1 ∧ f a e1 = .ok b e := by
  cases r with
  | ok a e1 => exact ⟨a, e1, rfl, h⟩
  | exc x e1 => cases h
  | bad => cases h
theorem wipe_sub (σ : L2.St) (us vs : List Nat) (h : ∀ u ∈ us, u ∈ vs) : wipe (wipe σ us) vs = wipe σ vs := by
  induction us with
  | nil => rfl
  | cons u us ih =>
    show wipe ((wipe σ us).set u none) vs = wipe σ vs
    rw [(wipe_set u none vs (wipe σ us)).1 (h u List.mem_cons_self)]
    exact ih fun z hz => h z (List.mem_cons_of_mem _ hz)
section
variable {X : Cx} {W : WX} {tg iter elt : Expr} {ifs : List Expr} {ix ix1 : List Nat} {g g1 : D → En → Option En} {mi mi1 : MA} {mt mt1 : MT} {el : ME}
theorem lc2_read {wi : TI} {vs vs1 : List Nat} (hix : ∀ i ∈ ix, i ∈ vs) (hix1 : ∀ i ∈ ix1, i ∈ vs1) (hvs : ∀ i ∈ vs1, i ∈ vs)
    (k : ∀ (G0 H0 G H : Hp) (σ : L2.St) (env : En) (Rw : It → Hp → Prop), RepS X.K G0 H0 G H σ env → PostE X W G0 H0 σ G (mi env) (fun ds _ G2 H2 => ∀ J, ItD X.K G2 J ds → Rw J H2) → wi σ H Rw)
    (G0 H0 G H : Hp) (σ : L2.St) (env : En) (Q : VK) (R : RepS X.K G0 H0 G H σ env)
    (q : PostE X W G0 H0 σ G (mLc2 g mi mt vs mi1 g1 mt1 el vs1 env) (fun ds env2 G2 H2 => ∀ l xs, Own X.K H0 G2 H2 σ env2 l xs ds → Q (.ref l) H2)) :
    tLc2 wi (cG X ix g) (cT X wF mt) (cI X mi1) (cG X ix1 g1) (cT X wF mt1) (cE X wF el) vs vs1 σ H Q := by
  refine k G0 H0 G H σ env _ R ((PostE.bind q).imp fun items e1 G1 H1 R1 s1 q1 J hJ Dl hD => ?_)
  split at q1
  case isFalse => exact q1.elim
  rename_i hno
  generalize hrun : runLc2 g mt vs mi1 g1 mt1 el vs1 items (wipeE e1 vs) = rr at q1
  cases rr with
  | exc x e => exact q1.elim
  | bad => exact q1.elim
  | ok all efin =>
  dsimp only at q1
  split at q1
  case isFalse => exact q1.elim
  rename_i hsz
  have g1' : G1 Dl = none := R1.gh.free hD
  have g0 : G0 Dl = none := R1.gr.gg.free g1'
  have h0 : H0 Dl = none := R1.gr.hh.free hD
  refine ⟨fun i m H' => ∃ G' e' acc ds zs, Same G1 G' ∧ RepS X.K G0 (upd H0 Dl (.lst acc)) G' H' (wipe σ vs) e' ∧ i + m = items.length ∧ Rps X.K G' acc ds ∧
    runLc2 g mt vs mi1 g1 mt1 el vs1 (items.drop i) e' = .ok zs efin ∧ ds ++ zs = all,
    ⟨items.length, G1, _, [], [], all, Same.refl _, (R1.wipe vs).frame hD, by omega, .nil, hrun, rfl⟩, ?_⟩
  rintro i m H' ⟨G', e', acc, ds, zs, sG, R', hm, hr, hz, hall⟩
  have it := hJ G' H' sG R'.gh i
  by_cases hlt : i < items.length
  · obtain ⟨go, yl⟩ := it.1 items[i] (List.getElem?_eq_getElem hlt)
    rw [List.drop_eq_getElem_cons hlt] at hz
    unfold runLc2 at hz
    refine .inr ⟨go, fun H5 => ∃ G5 e5 acc5 ds5 zs5, Same G1 G5 ∧ RepS X.K G0 (upd H0 Dl (.lst acc5)) G5 H5 (wipe σ vs) e5 ∧ Rps X.K G5 acc5 ds5 ∧
      runLc2 g mt vs mi1 g1 mt1 el vs1 (items.drop (i + 1)) e5 = .ok zs5 efin ∧ ds5 ++ zs5 = all,
      fun H5 ⟨G5, e5, acc5, ds5, zs5, a1, a2, a3, a4, a5⟩ => ⟨m - 1, by omega, G5, e5, acc5, ds5, zs5, a1, a2, by omega, a3, a4, a5⟩, fun x H2 y => ?_⟩
    obtain ⟨G2, gr, rx⟩ := yl x H2 y
    cases z : g items[i] e' with
    | none =>
      rw [z] at hz
      cases hz
    | some e2 =>
    rw [z] at hz
    dsimp only at hz
    refine ⟨G0, _, G2, e', items[i], e2, R'.grow gr, rx, z, fun σ3 R3 hw => ?_⟩
    have hw' : wipe σ3 vs = wipe σ vs := (hw vs hix).trans (wipe_idem σ vs)
    refine ⟨hw', G0, _, G2, e2, R3, ?_⟩
    have sG2 : Same G1 G2 := sG.trans gr.gg
    cases z2 : mt e2 with
    | exc x e3 =>
      rw [z2] at hz
      cases hz
    | bad =>
      rw [z2] at hz
      cases hz
    | ok b e3 =>
    rw [z2] at hz
    dsimp only at hz
    intro G3 H3 R4 s4
    cases b with
    | false =>
      rw [if_neg Bool.false_ne_true] at hz ⊢
      refine ⟨G3, wipeE e3 vs, acc, ds, zs, sG2.trans s4, ?_, hr.mono (gr.gg.trans s4), hz, hall⟩
      have R5 := R4.wipe vs
      rw [hw'] at R5
      exact R5
    | true =>
      rw [if_pos rfl] at hz ⊢
      cases z3 : mi1 e3 with
      | exc x e4 =>
        rw [z3] at hz
        cases hz
      | bad =>
        rw [z3] at hz
        cases hz
      | ok items1 e4 =>
      rw [z3] at hz
      dsimp only at hz
      refine ⟨G0, _, G3, e3, R4, ?_⟩
      rw [z3]
      intro G4 H4 R5 s5 J1 hJ1
      have sG4 : Same G1 G4 := (sG2.trans s4).trans s5
      have hr4 := hr.mono ((gr.gg.trans s4).trans s5)
      generalize hrun1 : runLc g1 mt1 el vs1 items1 (wipeE e4 vs1) = rr1 at hz
      cases rr1 with
      | exc x e => cases hz
      | bad => cases hz
      | ok ys1 e5 =>
      dsimp only at hz
      obtain ⟨zs2, e6, hz2, hz3⟩ := bind_ok hz
      cases hz3
      refine ⟨fun j n H' => ∃ G' e' acc' ds' ws, Same G4 G' ∧ RepS X.K G0 (upd H0 Dl (.lst acc')) G' H' (wipe σ3 vs1) e' ∧ j + n = items1.length ∧ Rps X.K G' acc' ds' ∧
        runLc g1 mt1 el vs1 (items1.drop j) e' = .ok ws e5 ∧ ds' ++ ws ++ zs2 = all,
        ⟨items1.length, G4, _, acc, ds, ys1, Same.refl _, R5.wipe vs1, by omega, hr4, hrun1, by rw [← hall, List.append_assoc]⟩, ?_⟩
      rintro j n H7 ⟨G7, e7, acc7, ds7, ws, sG7, R7, hn, hr7, hw7, hall7⟩
      have it1 := hJ1 G7 H7 sG7 R7.gh j
      by_cases hlt1 : j < items1.length
      · obtain ⟨go1, yl1⟩ := it1.1 items1[j] (List.getElem?_eq_getElem hlt1)
        rw [List.drop_eq_getElem_cons hlt1] at hw7
        unfold runLc at hw7
        refine .inr ⟨go1, fun H5 => ∃ G5 e5' acc5 ds5 ws5, Same G4 G5 ∧ RepS X.K G0 (upd H0 Dl (.lst acc5)) G5 H5 (wipe σ3 vs1) e5' ∧ Rps X.K G5 acc5 ds5 ∧
          runLc g1 mt1 el vs1 (items1.drop (j + 1)) e5' = .ok ws5 e5 ∧ ds5 ++ ws5 ++ zs2 = all,
          fun H5 ⟨G5, e5', acc5, ds5, ws5, a1, a2, a3, a4, a5⟩ => ⟨n - 1, by omega, G5, e5', acc5, ds5, ws5, a1, a2, by omega, a3, a4, a5⟩, fun x1 H8 y1 => ?_⟩
        obtain ⟨G8, gr8, rx8⟩ := yl1 x1 H8 y1
        cases z4 : g1 items1[j] e7 with
        | none =>
          rw [z4] at hw7
          cases hw7
        | some e8 =>
        rw [z4] at hw7
        dsimp only at hw7
        refine ⟨G0, _, G8, e7, items1[j], e8, R7.grow gr8, rx8, z4, fun σ9 R9 hw9 => ?_⟩
        have hw9' : wipe σ9 vs1 = wipe σ3 vs1 := (hw9 vs1 hix1).trans (wipe_idem σ3 vs1)
        refine ⟨hw9', G0, _, G8, e8, R9, ?_⟩
        have sG8 : Same G4 G8 := sG7.trans gr8.gg
        cases z5 : mt1 e8 with
        | exc x e3 =>
          rw [z5] at hw7
          cases hw7
        | bad =>
          rw [z5] at hw7
          cases hw7
        | ok b e9 =>
        rw [z5] at hw7
        dsimp only at hw7
        intro G10 H10 R10 s10
        cases b with
        | false =>
          rw [if_neg Bool.false_ne_true] at hw7 ⊢
          refine ⟨G10, wipeE e9 vs1, acc7, ds7, ws, sG8.trans s10, ?_, hr7.mono (gr8.gg.trans s10), hw7, hall7⟩
          have R11 := R10.wipe vs1
          rw [hw9'] at R11
          exact R11
        | true =>
          rw [if_pos rfl] at hw7 ⊢
          cases z6 : el e9 with
          | exc x e10 =>
            rw [z6] at hw7
            cases hw7
          | bad =>
            rw [z6] at hw7
            cases hw7
          | ok yd e10 =>
          rw [z6] at hw7
          dsimp only at hw7
          obtain ⟨ws2, e11, hw8, hw10⟩ := bind_ok hw7
          cases hw10
          refine ⟨G0, _, G10, e9, R10, ?_⟩
          rw [z6]
          intro G12 H12 R12 s12 v rv
          have hlen : acc7.length < sizeLine := by
            have e13 := hr7.length
            have e14 : all.length ≤ sizeLine := hsz
            rw [← hall7] at e14
            simp at e14
            omega
          refine ⟨acc7, (R12.framed g0).1, hlen, ?_⟩
          refine ⟨G12, wipeE e10 vs1, acc7 ++ [v], ds7 ++ [yd], ws2, (sG8.trans s10).trans s12, ?_, (hr7.mono ((gr8.gg.trans s10).trans s12)).append (Rps.one rv), hw8, by rw [← hall7]; simp⟩
          have R13 := (R12.reframe (o' := .lst (acc7 ++ [v])) g0 h0).wipe vs1
          rw [hw9'] at R13
          exact R13
      · rw [List.drop_eq_nil_of_le (by omega)] at hw7
        cases hw7
        refine .inl ⟨it1.2 (by omega), G7, wipeE e5 vs, acc7, ds7, zs2, sG4.trans sG7, ?_, hr7, hz2, by rw [← hall7]; simp⟩
        have R8 := R7.wipe vs
        rw [wipe_sub σ3 vs1 vs hvs, hw'] at R8
        exact R8
  · rw [List.drop_eq_nil_of_le (by omega)] at hz
    cases hz
    obtain ⟨hl, gl, ne⟩ := R'.framed g0
    have Ru := R'.unframe g0 h0
    have Rr := RepS.rest R1 sG Ru (wipe_length σ vs) vs hno
    rw [restS_wipe] at Rr
    have pq1 := q1 G' H' Rr sG
    refine .inl ⟨it.2 (by omega), pq1 Dl acc ⟨hl, gl, h0, fun j es ej ek => ?_, by rw [← hall]; simpa using hr⟩⟩
    obtain ⟨m2, xs2, em, hm2, gm2, h02, _⟩ := Rr.ow ej
    rw [em] at ek
    cases ek
    have key : ∀ (us : List Nat), (restE e1 efin us)[j]? = some (.ow es) → noOw e1 us = true → efin[j]? = some (.ow es) ∧ j ∉ us := by
      intro us
      induction us with
      | nil => exact fun h _ => ⟨h, by simp⟩
      | cons u us ih =>
        intro h hn
        unfold noOw at hn
        rw [List.all_cons, Bool.and_eq_true] at hn
        have h' : ((restE e1 efin us).set u (e1.getD u .no))[j]? = some (.ow es) := h
        by_cases hu : u = j
        · exfalso
          subst hu
          obtain ⟨hi, _⟩ := List.getElem?_eq_some_iff.mp h'
          rw [List.getElem?_set_self (by simpa using hi), List.getD_eq_getElem?_getD] at h'
          have h1 := hn.1
          cases q : e1[u]? with
          | none =>
            rw [q] at h'
            cases h'
          | some c =>
            rw [q] at h' h1
            cases h'
            exact absurd (show false = true from h1) Bool.false_ne_true
        · rw [List.getElem?_set_ne hu] at h'
          obtain ⟨a, b⟩ := ih h' hn.2
          exact ⟨a, fun z => by
            rcases List.mem_cons.mp z with z | z
            · exact hu z.symm
            · exact b z⟩
    obtain ⟨k1, k2⟩ := key vs ej hno
    exact ne j es k1 (by rw [wipe_out k2]; exact em)
theorem do_lc2 {e : Expr} {vs vs1 : List Nat} (hi : DI X W tg iter mi) (hix : ∀ i ∈ ix, i ∈ vs) (hix1 : ∀ i ∈ ix1, i ∈ vs1) (hvs : ∀ i ∈ vs1, i ∈ vs)
    (hp : ∀ wi, PI X tg iter wi → PE X e (tLc2 wi (cG X ix g) (cT X wF mt) (cI X mi1) (cG X ix1 g1) (cT X wF mt1) (cE X wF el) vs vs1)) : DO X W e (mLc2 g mi mt vs mi1 g1 mt1 el vs1) := by
  obtain ⟨wi, p, k⟩ := hi.run
  exact ⟨_, hp wi p, lc2_read hix hix1 hvs k⟩
end
end Nm
end

section
set_option Elab.async false
set_option linter.all false
set_option maxRecDepth 100000
set_option maxHeartbeats 1000000
namespace Nm
open PySem PySem.Spec PyProof.Rows L2

/-! ### reversed(range(n)) -/
def downs (n : Nat) : List D := (List.range n).map fun i => .int ((n : Int) - 1 - (i : Nat))
theorem downs_get {n i : Nat} {d : D} (h : (downs n)[i]? = some d) : i < n ∧ d = .int ((n : Int) - 1 - (i : Nat)) := by
  unfold downs at h
  rw [List.getElem?_map] at h
  by_cases hi : i < n
  · rw [List.getElem?_range hi] at h
    cases h
    exact ⟨hi, rfl⟩
  · rw [List.getElem?_eq_none (by simpa using hi)] at h
    cases h
theorem itd_rev {K : PySem.W.Frag} {G : Hp} {n : Nat} : ItD K G (Itc ((n : Int) - 1) (-1) n) (downs n) := fun G1 H1 s1 s2 i => by
  refine ⟨fun d e => ?_, fun hi => show n ≤ i by simpa [downs] using hi⟩
  obtain ⟨hi, rfl⟩ := downs_get e
  refine ⟨hi, fun x H2 y => ?_⟩
  obtain ⟨rfl, rfl⟩ := y
  refine ⟨G1, Gr.refl s2, ?_⟩
  have e : (n : Int) - 1 + (i : Nat) * -1 = (n : Int) - 1 - (i : Nat) := by omega
  rw [e]
  exact .int _
@[simp] def mRev1 (m : ME) : MA := fun env => (m env).bind fun d e => match d with
  | .int j => if inR j = true then .ok (downs j.toNat) e else .bad
  | _ => .bad
section
variable {X : Cx} {W : WX} {tg a b : Expr} {pos p p2 pos2 : Pos}
theorem di_rev1 {m : ME} (hg : Gl X "reversed") (hm : X.mg "reversed" = none) (hg2 : Gl X "range") (hm2 : X.mg "range" = none) (h : DE X W a m) (na : starEach [a] X.env = (false, eval a X.env) :: starEach [] X.env := by rfl)
    (hs : starEach [.Call (.Name "range" p2) [a] [] pos2] X.env = (false, eval (.Call (.Name "range" p2) [a] [] pos2) X.env) :: starEach [] X.env := by rfl) : DI X W tg (.Call (.Name "reversed" p) [.Call (.Name "range" p2) [a] [] pos2] [] pos) (mRev1 m) := by
  obtain ⟨t, pt, k⟩ := h.run
  refine ⟨_, pi_revR hg hm (prg_1 hg2 hm2 pt na) hs, fun G0 H0 G H σ env Rw R q => ?_⟩
  refine k G0 H0 G H σ env _ R ((PostE.bind q).imp fun d e1 G1 H1 R1 s1 q1 v rv => ?_)
  split at q1
  case h_2 => exact q1.elim
  rename_i j
  split at q1
  case isFalse => exact q1.elim
  rename_i hj
  have hj' := inR_ok hj
  cases rv
  refine ⟨j, rfl, by omega, by omega, hj'.1, hj'.2, ?_⟩
  have e : (0 : Int) + (((j - 0).toNat : Nat) : Int) - 1 = ((j.toNat : Nat) : Int) - 1 := by omega
  have e2 : (j - 0).toNat = j.toNat := by omega
  rw [e, e2]
  exact q1 G1 H1 R1 (Same.refl _) _ itd_rev

/-! ### x in xs, whole numbers -/
@[simp] def gIn : D → D → Option D := fun x y => match x, y with
  | .int i, .lst ds => (toIs ds).map fun ns => .bl (ns.contains i)
  | _, _ => none
theorem inV_ints (i : Int) : ∀ ns : List Int, inV (.int i) (ns.map V.int) = ns.contains i
  | [] => rfl
  | n :: ns => by
    have ih := inV_ints i ns
    unfold inV at ih ⊢
    rw [List.map_cons, List.any_cons, ih, List.contains_cons]
    congr 1
    show decide (n = i) = (i == n)
    by_cases h : n = i
    · subst h
      simp
    · have h2 : i ≠ n := fun z => h z.symm
      simp [h, h2]
theorem opd_in {K : PySem.W.Frag} : OpD K (rIn K false) gIn := by
  intro G H x y dx dy d Q e rx ry h k
  unfold gIn at h
  split at h
  case h_2 => cases h
  rename_i i ds
  cases ht : toIs ds with
  | none =>
    rw [ht] at h
    cases h
  | some ns =>
    rw [ht] at h
    cases h
    have e2 := toIs_ints ht
    subst e2
    cases rx
    cases ry with
    | @lst a xs _ hx rs =>
    have e3 := Rps.ints rs
    subst e3
    refine ⟨a, _, rfl, .inl (.inl (.inl (e a _ hx))), rfl, ?_, ?_⟩
    · rw [List.all_eq_true]
      intro z hz
      obtain ⟨n, _, rfl⟩ := List.mem_map.mp hz
      rfl
    · rw [if_neg Bool.false_ne_true, inV_ints]
      exact k _ G H (Gr.refl e) (.bl _)

/-! ### xs[lo:hi] -/
def cutD (xs : List D) (lo hi : Option Int) : List D := (xs.drop (HT.sIx xs.length 0 lo)).take (HT.sIx xs.length xs.length hi - HT.sIx xs.length 0 lo)
abbrev MO := En → Res (Option Int)
structure DP (X : Cx) (W : WX) (e : Option Expr) (m : MO) : Prop where
  run : ∃ t : TO, PO X e t ∧ ∀ (G0 H0 G H : Hp) (σ : L2.St) (env : En) (Q : Option Int → Hp → Prop), RepS X.K G0 H0 G H σ env → PostE X W G0 H0 σ G (m env) (fun o _ _ H2 => Q o H2) → t σ H Q
@[simp] def mNoP : MO := fun env => .ok none env
@[simp] def mPart (m : ME) : MO := fun env => (m env).bind fun d e => match d with
  | .int i => .ok (some i) e
  | _ => .bad
theorem dp_none : DP X W none mNoP := ⟨_, po_none, fun G0 H0 G H σ env Q R q => q G H R (Same.refl _)⟩
theorem dp_some {m : ME} (h : DE X W a m) : DP X W (some a) (mPart m) := by
  obtain ⟨t, p, k⟩ := h.run
  refine ⟨_, po_some p, fun G0 H0 G H σ env Q R q => ?_⟩
  refine k G0 H0 G H σ env _ R ((PostE.bind q).imp fun d e1 G1 H1 R1 s1 q1 v rv => ?_)
  split at q1
  case h_2 => exact q1.elim
  cases rv
  exact ⟨_, rfl, q1 G1 H1 R1 (Same.refl _)⟩
@[simp] def mSl (m : ME) (lo hi : MO) : MA := fun env => (m env).bind fun d e => (lo e).bind fun l e1 => (hi e1).bind fun u e2 => match d with
  | .lst xs => .ok (cutD xs l u) e2
  | _ => .bad
theorem do_sl {m : ME} {lo hi : Option Expr} {ml mh : MO} (h : DE X W a m) (hl : DP X W lo ml) (hh : DP X W hi mh) : DO X W (.Subscript a (.Slice lo hi none p2) pos) (mSl m ml mh) := by
  obtain ⟨t, p, k⟩ := h.run
  obtain ⟨tl, pl, kl⟩ := hl.run
  obtain ⟨tu, pu, ku⟩ := hh.run
  refine ⟨_, pe_slice sl_list p pl pu, fun G0 H0 G H σ env Q R q => ?_⟩
  refine k G0 H0 G H σ env _ R ((PostE.bind q).imp fun d e1 G1 H1 R1 s1 q1 v rv => ?_)
  refine kl G0 H0 G1 H1 σ e1 _ R1 ((PostE.bind q1).imp fun l e2 G2 H2 R2 s2 q2 => ?_)
  refine ku G0 H0 G2 H2 σ e2 _ R2 ((PostE.bind q2).imp fun u e3 G3 H3 R3 s3 q3 => ?_)
  cases rv with
  | @lst l1 xs ds hx rs =>
    dsimp only at q3
    have hx3 : G3 l1 = some (.lst xs) := s3 _ _ (s2 _ _ hx)
    refine ⟨l1, xs, rfl, .inl (.inl (R3.gh _ _ hx3)), fun q hq => ?_⟩
    have rc : Rps X.K G3 (cutV xs l u) (cutD ds l u) := by
      unfold cutV cutD
      rw [rs.length]
      exact (((rs.mono s2).mono s3).drop _).take _
    obtain ⟨R4, O⟩ := R3.own hq rc
    exact q3 _ _ R4 (Same.refl _) q _ O
  | _ => exact q3.elim
end

/-! ### calls of defs, by what is told of them -/
structure CalN (P : Program) (w : World) (K : PySem.W.Frag) (mg : Str → Option Value) (base : Heap) (k : Nat) (x : Str) (n : Nat) (f : List D → FR) : Prop where
  ex : ∃ (fa : Addr) (fd : FuncData) (ps : List Str), FnOk P w K mg base (L2.CX P w) k fa fd ps (spF K mg n f) ∧ mg x = some (.ref fa) ∧ PySem.W.keepIn K (.ref fa) = true ∧ Binds K fd ps []
section
variable {X : Cx} {W : WX} {e : Expr} {es : List Expr} {ma : MA} {n k j : Nat} {f : List D → FR} {x : Str} {p pos : Pos}
theorem de_cl (C : CalN X.prog X.w X.K X.mg X.base k x n f) (hr : Room j X.A) (hk : k ≤ j) (hg : Gl X x) (tw : Takes X W) (h : DA X W (e :: es) ma) (hdb : (x == ("__debug__" : Str)) = false := by decide)
    (he : starEach (e :: es) X.env = (false, eval e X.env) :: starEach es X.env := by rfl) (hpl : (backTo pos (starEach es X.env)).any (·.1) = false := by rfl) : DE X W (.Call (.Name x p) (e :: es) [] pos) (mCall n f ma) := by
  obtain ⟨fa, fd, ps, F, hm, hkp, hb⟩ := C.ex
  exact de_call h fun t ht => pe_callS F (hr.mono hk) hg hm hkp hb (fun σ => passAt tw σ) ht hdb he hpl
theorem do_cl (C : CalN X.prog X.w X.K X.mg X.base k x n f) (hr : Room j X.A) (hk : k ≤ j) (hg : Gl X x) (tw : Takes X W) (h : DA X W (e :: es) ma) (hdb : (x == ("__debug__" : Str)) = false := by decide)
    (he : starEach (e :: es) X.env = (false, eval e X.env) :: starEach es X.env := by rfl) (hpl : (backTo pos (starEach es X.env)).any (·.1) = false := by rfl) : DO X W (.Call (.Name x p) (e :: es) [] pos) (mCallO n f ma) := by
  obtain ⟨fa, fd, ps, F, hm, hkp, hb⟩ := C.ex
  exact do_call h fun t ht => pe_callS F (hr.mono hk) hg hm hkp hb (fun σ => passAt tw σ) ht hdb he hpl
/-- a module's whole number -/
theorem de_gi {i : Int} (hg : Gl X x) (hm : ∃ t, X.mg x = some (.int i t)) (hdb : (x == ("__debug__" : Str)) = false := by decide) : DE X W (.Name x pos) (mC (.int i)) := by
  obtain ⟨t, hm⟩ := hm
  exact de_c (v := .int i) (pe_glob hg hm ⟨t, rfl⟩ hdb) fun _ => .int i
end
end Nm
end

section
set_option Elab.async false
set_option linter.all false
set_option maxRecDepth 100000
set_option maxHeartbeats 1000000
namespace Nm
open PySem PySem.Spec PyProof.Rows L2

/-! ### the operators by name -/
def cYes : Int → Int → Bool := fun _ _ => true
def cMul : Int → Int → Bool := fun i j => smB i || smB j
def cDiv : Int → Int → Bool := fun _ j => Nat.ble 1 j.toNat && Nat.ble j.toNat 1073741823
def cMod : Int → Int → Bool := fun _ j => Nat.ble 1 j.toNat
def cPow : Int → Int → Bool := fun i j => smB i && (Nat.ble j.toNat 1000000 && Nat.ble j.natAbs j.toNat)
def cShr : Int → Int → Bool := fun _ j => Nat.ble j.natAbs j.toNat
theorem cMul_ok {i j : Int} (h : cMul i j = true) : CMul i j := by
  unfold cMul at h
  rw [Bool.or_eq_true] at h
  exact h.imp smB_ok smB_ok
theorem cDiv_ok {i j : Int} (h : cDiv i j = true) : CDiv i j := by
  unfold cDiv at h
  rw [Bool.and_eq_true] at h
  have h1 := Nat.le_of_ble_eq_true h.1
  have h2 := Nat.le_of_ble_eq_true h.2
  exact ⟨by omega, by omega⟩
theorem cMod_ok {i j : Int} (h : cMod i j = true) : 0 < j := by
  have h1 := Nat.le_of_ble_eq_true h
  omega
theorem cPow_ok {i j : Int} (h : cPow i j = true) : CPow i j := by
  unfold cPow at h
  rw [Bool.and_eq_true, Bool.and_eq_true] at h
  have h1 := smB_ok h.1
  have h2 := Nat.le_of_ble_eq_true h.2.1
  have h3 := Nat.le_of_ble_eq_true h.2.2
  exact ⟨by omega, by omega, by omega⟩
theorem cShr_ok {i j : Int} (h : cShr i j = true) : 0 ≤ j := by
  have h1 := Nat.le_of_ble_eq_true h
  omega
theorem mul_l {i j : Int} (h : i.natAbs < 2 ^ 64) : cMul i j = true := by
  unfold cMul
  rw [smB_of h]
  rfl
theorem mul_r {i j : Int} (h : j.natAbs < 2 ^ 64) : cMul i j = true := by
  unfold cMul
  rw [smB_of h, Bool.or_true]
theorem div_of {i j : Int} (h : 0 < j) (h2 : j < 1073741824) : cDiv i j = true := by
  unfold cDiv
  rw [Bool.and_eq_true]
  exact ⟨Nat.ble_eq_true_of_le (by omega), Nat.ble_eq_true_of_le (by omega)⟩
theorem mod_of {i j : Int} (h : 0 < j) : cMod i j = true := Nat.ble_eq_true_of_le (by omega)
theorem shr_of {i j : Int} (h : 0 ≤ j) : cShr i j = true := Nat.ble_eq_true_of_le (by omega)
def gAdd := gI cYes fun i j => i + j
def gSub := gI cYes fun i j => i - j
def gMul := gI cMul fun i j => i * j
def gDiv := gI cDiv fun i j => i / j
def gMod := gI cMod fun i j => i % j
def gPow := gI cPow fun i j => i ^ j.toNat
def gShr := gI cShr fun i j => i / 2 ^ j.toNat
def gLt := gB fun i j => decide (i < j)
def gLe := gB fun i j => decide (i ≤ j)
def gGt := gB fun i j => decide (j < i)
def gGe := gB fun i j => decide (j ≤ i)
section
variable (i j : Int)
@[simp] theorem gAdd_i : gAdd (.int i) (.int j) = some (.int (i + j)) := rfl
@[simp] theorem gSub_i : gSub (.int i) (.int j) = some (.int (i - j)) := rfl
@[simp] theorem gMul_i : gMul (.int i) (.int j) = if cMul i j = true then some (.int (i * j)) else none := rfl
@[simp] theorem gDiv_i : gDiv (.int i) (.int j) = if cDiv i j = true then some (.int (i / j)) else none := rfl
@[simp] theorem gMod_i : gMod (.int i) (.int j) = if cMod i j = true then some (.int (i % j)) else none := rfl
@[simp] theorem gPow_i : gPow (.int i) (.int j) = if cPow i j = true then some (.int (i ^ j.toNat)) else none := rfl
@[simp] theorem gShr_i : gShr (.int i) (.int j) = if cShr i j = true then some (.int (i / 2 ^ j.toNat)) else none := rfl
@[simp] theorem gLt_i : gLt (.int i) (.int j) = some (.bl (decide (i < j))) := rfl
@[simp] theorem gLe_i : gLe (.int i) (.int j) = some (.bl (decide (i ≤ j))) := rfl
@[simp] theorem gGt_i : gGt (.int i) (.int j) = some (.bl (decide (j < i))) := rfl
@[simp] theorem gGe_i : gGe (.int i) (.int j) = some (.bl (decide (j ≤ i))) := rfl
end
section
variable {K : PySem.W.Frag}
theorem od_add : OpD K (rI0 fun i j => .int (i + j)) gAdd := opd_I0
theorem od_sub : OpD K (rI0 fun i j => .int (i - j)) gSub := opd_I0
theorem od_mul : OpD K (rI CMul fun i j => .int (i * j)) gMul := opd_I fun _ _ h => cMul_ok h
theorem od_div : OpD K (rI CDiv fun i j => .int (i / j)) gDiv := opd_I fun _ _ h => cDiv_ok h
theorem od_mod : OpD K (rI (fun _ j => 0 < j) fun i j => .int (i % j)) gMod := opd_I fun _ _ h => cMod_ok h
theorem od_pow : OpD K (rI CPow fun i j => .int (i ^ j.toNat)) gPow := opd_I fun _ _ h => cPow_ok h
theorem od_shr : OpD K (rI (fun _ j => 0 ≤ j) fun i j => .int (i / 2 ^ j.toNat)) gShr := opd_I fun _ _ h => cShr_ok h
theorem od_lt : OpD K (rI0 fun i j => .bl (decide (i < j))) gLt := opd_B
theorem od_le : OpD K (rI0 fun i j => .bl (decide (i ≤ j))) gLe := opd_B
theorem od_gt : OpD K (rI0 fun i j => .bl (decide (j < i))) gGt := opd_B
theorem od_ge : OpD K (rI0 fun i j => .bl (decide (j ≤ i))) gGe := opd_B
end
@[simp] def mAndV (ma mb : ME) : ME := fun env => (mB ma env).bind fun x e1 => if x = true then mb e1 else .ok (.bl false) e1
@[simp] def mOrV (ma mb : ME) : ME := fun env => (mB ma env).bind fun x e1 => if x = true then .ok (.bl true) e1 else mb e1
@[simp] def mNotV (ma : ME) : ME := fun env => (mB ma env).bind fun x e1 => .ok (.bl (!x)) e1
@[simp] def sFrz (i : Nat) (m : MS) : MS := fun env => m (frz i env)
@[simp] def sAppend (i : Nat) (m : ME) : MS := fun env => match env[i]? with
  | some (.ow _) => sApp i m env
  | _ => .bad
@[simp] def sBk : MS := fun env => .bk env
@[simp] def sCt : MS := fun env => .ct env
/-! the mirrors of except suites -/
def hFld (nm n : Str) : Exc → Option D := fun ex => if ex.cls = nm then ex.fs.lookup n else none
def hIs (tab : List (Str × Bool)) : Exc → Option D := fun ex => (tab.lookup ex.cls).map D.bl
def hNot (m : Exc → Option D) : Exc → Option D := fun x => match m x with
  | some (.bl b) => some (.bl (!b))
  | _ => none
def hAnd (m m1 : Exc → Option D) : Exc → Option D := fun x => match m x with
  | some (.bl true) => m1 x
  | some (.bl false) => some (.bl false)
  | _ => none
def hTup2 (m1 m2 : Exc → Option D) : Exc → Option D := fun x => (m1 x).bind fun d1 => (m2 x).map fun d2 => .tup [d1, d2]
def hIf (b1 : Exc → Option Bool) (m1 m2 : Exc → Option D) : Exc → Option D := fun x => (b1 x).bind fun c => if c = true then m1 x else m2 x
def hT (m : Exc → Option D) : Exc → Option Bool := fun x => match m x with
  | some (.bl b) => some b
  | _ => none
def hNotT (b1 : Exc → Option Bool) : Exc → Option Bool := fun x => (b1 x).map (!·)
def hAndT (b1 b2 : Exc → Option Bool) : Exc → Option Bool := fun x => (b1 x).bind fun c => if c = true then b2 x else some false
def hRet (m : Exc → Option D) : Exc → Option (Option D) := fun x => (m x).map some
def hIfS (b1 : Exc → Option Bool) (n1 n2 : Exc → Option (Option D)) : Exc → Option (Option D) := fun x => (b1 x).bind fun b => if b = true then n1 x else n2 x
def hNil : Exc → Option (Option D) := fun _ => some none
def hSeq (n n1 : Exc → Option (Option D)) : Exc → Option (Option D) := fun x => (n x).bind fun r => match r with
  | some d => some (some d)
  | none => n1 x
/-- what the text tells of an own exception class with its own __init__(self, part) -/
structure XP (P : Program) (w : World) (K : PySem.W.Frag) (mg : Str → Option Value) (base : Heap) (nm : Str) (C fI : Addr) (fd : FuncData) : Prop where
  gC : mg nm = some (.ref C)
  ox : OexC K C
  iC : PySem.W.findIn K (.ref C) "__init__" = some (some (.ref fI))
  tI : PySem.W.typeIn K (.ref fI) = some (.type "function")
  fn : FnOk P w K mg base (L2.CX P w) 1 fI fd ["self", "part"] (spI K C "part")
  bd : Binds K fd ["self", "part"] []
  xf : XfC K C
  nf : PySem.W.findIn K (.ref C) "part" = some none
/-- .. never raised here -/
structure XR (mg : Str → Option Value) (nm : Str) (C : Addr) : Prop where
  gC : mg nm = some (.ref C)
/-- .. without one -/
structure XT (K : PySem.W.Frag) (mg : Str → Option Value) (nm : Str) (C : Addr) : Prop where
  gC : mg nm = some (.ref C)
  ec : PySem.W.excIn K C [.type "ValueError", .type "Exception", .type "BaseException", .type "object"] "ValueError.__new__" = true
  kC : PySem.W.keepIn K (.ref C) = true
  exC : PySem.W.subIn K (.ref C) (.type "BaseException") = some true
  tyC : PySem.W.typeIn K (.ref C) = some (.type "type")

/-- a def with keyword-only parameters -/
structure CalK (P : Program) (w : World) (K : PySem.W.Frag) (mg : Str → Option Value) (base : Heap) (k : Nat) (x : Str) (n : Nat) (ks : List Str) (f : List D → FR) : Prop where
  ex : ∃ (fa : Addr) (fd : FuncData) (ps : List Str), FnOk P w K mg base (L2.CX P w) k fa fd ps (spF K mg (n + ks.length) f) ∧ mg x = some (.ref fa) ∧ PySem.W.keepIn K (.ref fa) = true ∧
    ∀ (s : Shared) (us ws : List Value), us.length = n → ws.length = ks.length → BindsTo s fd ⟨us, ks.zip ws⟩ (ps.zip (us ++ ws))
section
variable {X : Cx} {W : WX} {e : Expr} {es : List Expr} {kws : List Keyword} {ma mk : MA} {n k j : Nat} {ks : List Str} {f : List D → FR} {x : Str} {p pos : Pos}
theorem de_clK {nk : Nat} (C : CalK X.prog X.w X.K X.mg X.base k x n ks f) (hr : Room j X.A) (hk : k ≤ j) (hg : Gl X x) (tw : Takes X W) (h : DA X W (e :: es) ma) (h2 : DK X W kws mk) (hl : ks.length = nk := by rfl)
    (hall : (backToKw pos (keywordEach kws X.env)).all (·.1.isSome) = true := by rfl) (hks : (backToKw pos (keywordEach kws X.env)).filterMap (·.1) = ks := by rfl)
    (hdb : (x == ("__debug__" : Str)) = false := by decide) (he : starEach (e :: es) X.env = (false, eval e X.env) :: starEach es X.env := by rfl)
    (hpl : ((backTo pos (starEach (e :: es) X.env)).any (·.1) || (backToKw pos (keywordEach kws X.env)).any (·.1.isNone)) = false := by rfl) : DE X W (.Call (.Name x p) (e :: es) kws pos) (mCallK n nk f ma mk) := by
  subst hl
  obtain ⟨fa, fd, ps, F, hm, hkp, hb⟩ := C.ex
  exact de_callK h h2 fun t u ht hu => pe_callKS F (hr.mono hk) hg hm hkp hb tw ht hu hall hks hdb he hpl
theorem ds_frz' {st : Stmt} {m : MS} (i : Nat) (h : DS X W st m) : DS X W st (sFrz i m) := ds_frz i h
end
section
variable {X : Cx} {s : Shared} {H : Hp} {scope : Scope} {cenv : Env} {fp : List Addr}
theorem DE.blk {e : Expr} {m : ME} (h : DE (X.blk s H scope cenv fp) wF e m) : PE (X.blk s H scope cenv fp) e (cE X wF m) := h.canon
theorem DG.blk {tg : Expr} {ix : List Nat} {g : D → En → Option En} (h : DG (X.blk s H scope cenv fp) tg ix g) : PG (X.blk s H scope cenv fp) tg (cG X ix g) := h.canon
theorem DTs.blk {ifs : List Expr} {m : MT} (h : DTs (X.blk s H scope cenv fp) ifs m) : PTs (X.blk s H scope cenv fp) ifs (cT X wF m) := h.run
theorem DI.blk {tg iter : Expr} {m : MA} (h : DI (X.blk s H scope cenv fp) wF tg iter m) : PI (X.blk s H scope cenv fp) tg iter (cI X m) := h.canon
end

/-! ### the rules with the whole expression in their end -/
section
variable {X : Cx} {W : WX} {tg iter elt a b e : Expr} {es ifs : List Expr} {ix ix1 : List Nat} {g g1 : D → En → Option En} {mi mi1 : MA} {mt mt1 : MT} {el m : ME} {x id T : Str} {p pos : Pos} {k : List D → Option D}
theorem de_bi {id : String} {r : List V → Hp → VK → Prop} {ma : MA} (hc : CallR X (.builtin id) r) (hk : CallD X.K r k) (hg : Gl X x) (hm : X.mg x = none) (hv : bootBuiltins x = some (.builtin id)) (h : DA X W (a :: es) ma) (hn : x ≠ "__name__" := by decide) (hdb : (x == ("__debug__" : Str)) = false := by decide)
    (he : starEach (a :: es) X.env = (false, eval a X.env) :: starEach es X.env := by rfl) (hpl : (backTo pos (starEach es X.env)).any (·.1) = false := by rfl) : DE X W (.Call (.Name x p) (a :: es) [] pos) (mCB k ma) :=
  de_cb (fun t ht => pe_callB hc hg hm hv ht hn hdb he hpl) hk h
theorem de_ty {T : String} {r : List V → Hp → VK → Prop} {ma : MA} (hc : CallR X (.type T) r) (hk : CallD X.K r k) (hg : Gl X x) (hm : X.mg x = none) (hv : bootBuiltins x = some (.type T)) (h : DA X W (a :: es) ma) (hn : x ≠ "__name__" := by decide) (hdb : (x == ("__debug__" : Str)) = false := by decide)
    (he : starEach (a :: es) X.env = (false, eval a X.env) :: starEach es X.env := by rfl) (hpl : (backTo pos (starEach es X.env)).any (·.1) = false := by rfl) : DE X W (.Call (.Name x p) (a :: es) [] pos) (mCB k ma) :=
  de_cb (fun t ht => pe_callTy hc hg hm hv ht hn hdb he hpl) hk h
theorem do_ty {T : String} {r : List V → Hp → VK → Prop} {ma : MA} {k : List D → Option (List D)} (hc : CallR X (.type T) r) (hk : CallL X.K r k) (hg : Gl X x) (hm : X.mg x = none) (hv : bootBuiltins x = some (.type T)) (h : DA X W (a :: es) ma) (hn : x ≠ "__name__" := by decide) (hdb : (x == ("__debug__" : Str)) = false := by decide)
    (he : starEach (a :: es) X.env = (false, eval a X.env) :: starEach es X.env := by rfl) (hpl : (backTo pos (starEach es X.env)).any (·.1) = false := by rfl) : DO X W (.Call (.Name x p) (a :: es) [] pos) (mCB k ma) :=
  do_cb (fun t ht => pe_callTy hc hg hm hv ht hn hdb he hpl) hk h
/-- isinstance(a, T) of data -/
theorem de_is {T : String} {c : Str} {p2 : Pos} {bf : String → Bool} (hk : ∀ d : D, kitB (tyN d) T = some (bf (tyN d))) (hg : Gl X "isinstance") (hm : X.mg "isinstance" = none) (hg2 : Gl X c) (hm2 : X.mg c = none) (hv2 : bootBuiltins c = some (.type T)) (h : DE X W a m)
    (hn : c ≠ "__name__" := by decide) (hdb : (c == ("__debug__" : Str)) = false := by decide)
    (he : starEach (a :: [.Name c p2]) X.env = (false, eval a X.env) :: starEach [.Name c p2] X.env := by rfl) (he2 : starEach [.Name c p2] X.env = (false, eval (.Name c p2) X.env) :: starEach [] X.env := by rfl) (hpl : (backTo pos (starEach [.Name c p2] X.env)).any (·.1) = false := by rfl) :
    DE X W (.Call (.Name "isinstance" p) [a, .Name c p2] [] pos) (mIsi bf m) :=
  de_isi hk h fun t ht => pe_callB call_isi hg hm PyProof.Rows.Boot.«isinstance» (pa_cons ht (pa_cons (pe_bltn hg2 hm2 hv2 rfl hn hdb) pa_nil he2) he) (by decide) (by decide) he hpl
theorem di_r1 {ma : MA} (hg : Gl X "range") (hm : X.mg "range" = none) (h : DA X W [a] ma) (hs : starEach [a] X.env = [(false, eval a X.env)] := by rfl) : DI X W tg (.Call (.Name "range" p) [a] [] pos) (mRng1 ma) := di_rng1 h fun t ht => pi_range1 hg hm ht hs
theorem di_r2 {ma : MA} (hg : Gl X "range") (hm : X.mg "range" = none) (h : DA X W [a, b] ma) (hs : starEach [a, b] X.env = [(false, eval a X.env), (false, eval b X.env)] := by rfl) (hs2 : starEach [b] X.env = [(false, eval b X.env)] := by rfl) : DI X W tg (.Call (.Name "range" p) [a, b] [] pos) (mRng2 ma) := di_rng2 h fun t ht => pi_range2 hg hm ht hs hs2
/-- [elt for tg in iter if ..] -/
theorem do_lcx {scope : Scope} {own : List (Str × Nat)} (hc : X.calm = true) (nd : X.N.Nodup) (ok : BlkOk X.N X.env.scope scope own) (hi : DI X W tg iter mi)
    (hg : ∀ (s : Shared) (H : Hp) (C : Addr) (cl : List (Str × Addr)) (fp : List Addr), DG (X.blk s H scope (compEnvC scope cl C X.env) fp) tg ix g)
    (ht : ∀ (s : Shared) (H : Hp) (C : Addr) (cl : List (Str × Addr)) (fp : List Addr), DTs (X.blk s H scope (compEnvC scope cl C X.env) fp) ifs mt)
    (he : ∀ (s : Shared) (H : Hp) (C : Addr) (cl : List (Str × Addr)) (fp : List Addr), DE (X.blk s H scope (compEnvC scope cl C X.env) fp) wF elt el) (hix : ∀ i ∈ ix, i ∈ own.map (·.2)) (hs : ∀ x, foldedSetIterable iter X.env x = pure x := by intro _; rfl) :
    DO X W (.ListComp elt [⟨tg, iter, ifs, 0⟩] scope pos) (mLc g mi mt el (own.map (·.2))) :=
  do_lc hi hix fun wi pi => pe_lc hc nd pi ok (fun s H C cl fp => (hg s H C cl fp).blk) (fun s H C cl fp => (ht s H C cl fp).blk) (fun s H C cl fp => (he s H C cl fp).blk) hs
theorem ds_lcx {i : Nat} {y : Str} {py spos : Pos} {scope : Scope} {own : List (Str × Nat)} (hc : X.calm = true) (nd : X.N.Nodup) (hy : X.N[i]? = some y) (hyl : X.env.scope.names.lookup y = some .local) (hk : X.env.scope.kind = .function) (hl : (py.line == pos.line) = true)
    (hsn : (scope.names.any fun (n, k) => n == y && (k == .local || k == .cell)) = false) (ok : BlkOk X.N X.env.scope scope own) (hi : DI X W tg iter mi)
    (hg : ∀ (s : Shared) (H : Hp) (C : Addr) (cl : List (Str × Addr)) (fp : List Addr), DG (X.blk s H scope (compEnvC scope cl C X.env) fp) tg ix g)
    (ht : ∀ (s : Shared) (H : Hp) (C : Addr) (cl : List (Str × Addr)) (fp : List Addr), DTs (X.blk s H scope (compEnvC scope cl C X.env) fp) ifs mt)
    (he : ∀ (s : Shared) (H : Hp) (C : Addr) (cl : List (Str × Addr)) (fp : List Addr), DE (X.blk s H scope (compEnvC scope cl C X.env) fp) wF elt el) (hix : ∀ i ∈ ix, i ∈ own.map (·.2)) (hs : ∀ x, foldedSetIterable iter X.env x = pure x := by intro _; rfl) :
    DS X W (.Assign [.Name y py] (.ListComp elt [⟨tg, iter, ifs, 0⟩] scope pos) spos) (sSetO i (mLc g mi mt el (own.map (·.2)))) :=
  ds_setLc hi hix fun wi pi => ps_setLc hc nd hy hyl (sw_true hk hyl hl hsn) pi ok (fun s H C cl fp => (hg s H C cl fp).blk) (fun s H C cl fp => (ht s H C cl fp).blk) (fun s H C cl fp => (he s H C cl fp).blk) hs
theorem do_lc2x {tg1 iter1 : Expr} {ifs1 : List Expr} {scope : Scope} {own : List (Str × Nat)} {vs1 : List Nat} (hc : X.calm = true) (nd : X.N.Nodup) (ok : BlkOk X.N X.env.scope scope own) (hv : ∀ i ∈ vs1, i ∈ own.map (·.2)) (hi : DI X W tg iter mi)
    (hg : ∀ (s : Shared) (H : Hp) (C : Addr) (cl : List (Str × Addr)) (fp : List Addr), DG (X.blk s H scope (compEnvC scope cl C X.env) fp) tg ix g)
    (ht : ∀ (s : Shared) (H : Hp) (C : Addr) (cl : List (Str × Addr)) (fp : List Addr), DTs (X.blk s H scope (compEnvC scope cl C X.env) fp) ifs mt)
    (hi1 : ∀ (s : Shared) (H : Hp) (C : Addr) (cl : List (Str × Addr)) (fp : List Addr), DI (X.blk s H scope (compEnvC scope cl C X.env) fp) wF tg1 iter1 mi1)
    (hg1 : ∀ (s : Shared) (H : Hp) (C : Addr) (cl : List (Str × Addr)) (fp : List Addr), DG (X.blk s H scope (compEnvC scope cl C X.env) fp) tg1 ix1 g1)
    (ht1 : ∀ (s : Shared) (H : Hp) (C : Addr) (cl : List (Str × Addr)) (fp : List Addr), DTs (X.blk s H scope (compEnvC scope cl C X.env) fp) ifs1 mt1)
    (he : ∀ (s : Shared) (H : Hp) (C : Addr) (cl : List (Str × Addr)) (fp : List Addr), DE (X.blk s H scope (compEnvC scope cl C X.env) fp) wF elt el) (hix : ∀ i ∈ ix, i ∈ own.map (·.2)) (hix1 : ∀ i ∈ ix1, i ∈ vs1)
    (hs : ∀ x, foldedSetIterable iter X.env x = pure x := by intro _; rfl) (hs1 : ∀ env x, foldedSetIterable iter1 env x = pure x := by intro _ _; rfl) :
    DO X W (.ListComp elt [⟨tg, iter, ifs, 0⟩, ⟨tg1, iter1, ifs1, 0⟩] scope pos) (mLc2 g mi mt (own.map (·.2)) mi1 g1 mt1 el vs1) :=
  do_lc2 hi hix hix1 hv fun wi pi => pe_lc2 hc nd pi ok hv (fun s H C cl fp => (hg s H C cl fp).blk) (fun s H C cl fp => (ht s H C cl fp).blk) (fun s H C cl fp => (hi1 s H C cl fp).blk) (fun s H C cl fp => (hg1 s H C cl fp).blk) (fun s H C cl fp => (ht1 s H C cl fp).blk) (fun s H C cl fp => (he s H C cl fp).blk) hs hs1
theorem di_en {elts : List Expr} {kk : Nat} {tpos : Pos} {ma : MA} (hg : Gl X "enumerate") (hm : X.mg "enumerate" = none) (h : DA X W [a] ma) (hs : starEach [a] X.env = [(false, eval a X.env)] := by rfl) : DI X W (.Tuple elts kk tpos) (.Call (.Name "enumerate" p) [a] [] pos) (mEnum ma) := di_enum h fun t ht => pi_enum hg hm ht hs
/-- xs.append(a) -/
theorem ds_append {i : Nat} {o : Expr} {apos cpos : Pos} (ho : PE X o (tVar i)) (h : DE X W a m) (hbase : attributeBase o "append" X.env (eval o X.env) = eval o X.env := by rfl)
    (hfew : ((backTo cpos (starEach (a :: []) X.env)).all (fun x => !x.1) && (backToKw cpos (keywordEach [] X.env)).all (fun x => x.1.isSome) && decide ((a :: ([] : List Expr)).length + ([] : List Keyword).length + (if ([] : List Keyword).isEmpty then 0 else 1) < 30)) = true := by rfl)
    (hline : (apos.endLine == cpos.line) = true := by rfl) (hs : starEach (a :: []) X.env = (false, eval a X.env) :: starEach [] X.env := by rfl) (hpl : (backTo cpos (starEach [] X.env)).any (·.1) = false := by rfl)
    (hsw : swapsWith (.Call (.Attribute o "append" apos) [a] [] cpos) none pos.line X.env = pure false := by rfl) : DS X W (.Expr (.Call (.Attribute o "append" apos) [a] [] cpos) pos) (sAppend i m) :=
  ds_app (o := o) h fun t ht => ps_expr (pe_bm PySem.F.plainAttrs_list PySem.F.slot_list_append PySem.F.type_list_append mt_append ho (pa_cons ht pa_nil hs) hbase hfew hline hs hpl) hsw
/-- xs[b] = a -/
theorem ds_putx {i : Nat} {o : Expr} {p2 : Pos} {mi : ME} (ho : PE X o (tVar i)) (h : DE X W a m) (hi : DE X W b mi) (hp : ∀ t u, PE X a t → PE X b u → PS X (.Assign [.Subscript o b p2] a pos) (tAsg t (L2.gSub (tVar i) u rSetL))) :
    DS X W (.Assign [.Subscript o b p2] a pos) (sPut i m mi) := ds_put h hi hp
end
end Nm
end

section
set_option Elab.async false
set_option linter.all false
set_option maxRecDepth 100000
set_option maxHeartbeats 1000000
namespace Nm
open PySem PySem.Spec PyProof.Rows L2

/-! ### mirrors at known cells -/
/-- one turn of a comprehension -/
def stepLc (g : D → En → Option En) (t : MT) (el : ME) (vs : List Nat) (d : D) (e : En) : Option (Option D × En) := match g d e with
  | none => none
  | some e1 => match t e1 with
    | .ok b e2 => if b = true then match el e2 with
        | .ok y e3 => some (some y, wipeE e3 vs)
        | _ => none
      else some (none, wipeE e2 vs)
    | _ => none
theorem runLc_fm {g : D → En → Option En} {t : MT} {el : ME} {vs : List Nat} {e : En} (f : D → Option D) : ∀ (ds : List D), (∀ d ∈ ds, stepLc g t el vs d e = some (f d, e)) → runLc g t el vs ds e = .ok (ds.filterMap f) e
  | [], _ => rfl
  | d :: ds, h => by
    have ih := runLc_fm f ds fun x hx => h x (List.mem_cons_of_mem _ hx)
    have h0 := h d List.mem_cons_self
    unfold stepLc at h0
    unfold runLc
    cases h1 : g d e with
    | none =>
      rw [h1] at h0
      cases h0
    | some e1 =>
    rw [h1] at h0
    dsimp only at h0 ⊢
    cases h2 : t e1 with
    | exc x e2 =>
      rw [h2] at h0
      cases h0
    | bad =>
      rw [h2] at h0
      cases h0
    | ok b e2 =>
    rw [h2] at h0
    dsimp only at h0 ⊢
    cases b with
    | false =>
      rw [if_neg Bool.false_ne_true] at h0 ⊢
      simp only [Option.some.injEq, Prod.mk.injEq] at h0
      rw [h0.2, ih, List.filterMap_cons, ← h0.1]
    | true =>
      rw [if_pos rfl] at h0 ⊢
      cases h3 : el e2 with
      | exc x e3 =>
        rw [h3] at h0
        cases h0
      | bad =>
        rw [h3] at h0
        cases h0
      | ok y e3 =>
      rw [h3] at h0
      dsimp only at h0 ⊢
      simp only [Option.some.injEq, Prod.mk.injEq] at h0
      rw [h0.2, ih, List.filterMap_cons, ← h0.1]
      rfl
theorem filterMap_some' {α β : Type} (f : α → β) : ∀ l : List α, l.filterMap (fun x => some (f x)) = l.map f
  | [] => rfl
  | x :: l => by rw [List.filterMap_cons, List.map_cons, filterMap_some' f l]
theorem runLc_map {g : D → En → Option En} {t : MT} {el : ME} {vs : List Nat} {e : En} (f : D → D) (ds : List D) (h : ∀ d ∈ ds, stepLc g t el vs d e = some (some (f d), e)) : runLc g t el vs ds e = .ok (ds.map f) e := by
  rw [runLc_fm (fun d => some (f d)) ds h, filterMap_some']
theorem runLc_fmF {α : Type} {g : D → En → Option En} {t : MT} {el : ME} {vs : List Nat} {e : En} (φ : α → D) (ψ : α → Option D) : ∀ (xs : List α), (∀ x ∈ xs, stepLc g t el vs (φ x) e = some (ψ x, e)) → runLc g t el vs (xs.map φ) e = .ok (xs.filterMap ψ) e
  | [], _ => rfl
  | x :: xs, h => by
    have ih := runLc_fmF φ ψ xs fun y hy => h y (List.mem_cons_of_mem _ hy)
    have h1 : runLc g t el vs [φ x] e = .ok ([φ x].filterMap fun _ => ψ x) e := runLc_fm (fun _ => ψ x) [φ x] fun d hd => by
      rw [List.mem_singleton.mp hd]
      exact h x List.mem_cons_self
    have h2 : ∀ ds : List D, runLc g t el vs (φ x :: ds) e = match ψ x with
      | some y => (runLc g t el vs ds e).bind fun ys e4 => .ok (y :: ys) e4
      | none => runLc g t el vs ds e := fun ds => by
      have h0 := h x List.mem_cons_self
      unfold stepLc at h0
      conv => lhs; unfold runLc
      cases hg : g (φ x) e with
      | none =>
        rw [hg] at h0
        cases h0
      | some e1 =>
      rw [hg] at h0
      dsimp only at h0 ⊢
      cases h3 : t e1 with
      | exc y e2 =>
        rw [h3] at h0
        cases h0
      | bad =>
        rw [h3] at h0
        cases h0
      | ok b e2 =>
      rw [h3] at h0
      dsimp only at h0 ⊢
      cases b with
      | false =>
        rw [if_neg Bool.false_ne_true] at h0 ⊢
        simp only [Option.some.injEq, Prod.mk.injEq] at h0
        rw [h0.2, ← h0.1]
      | true =>
        rw [if_pos rfl] at h0 ⊢
        cases h4 : el e2 with
        | exc y e3 =>
          rw [h4] at h0
          cases h0
        | bad =>
          rw [h4] at h0
          cases h0
        | ok y e3 =>
        rw [h4] at h0
        dsimp only at h0 ⊢
        simp only [Option.some.injEq, Prod.mk.injEq] at h0
        rw [h0.2, ← h0.1]
    rw [List.map_cons, h2, ih, List.filterMap_cons]
    cases ψ x <;> rfl
theorem runLc_mapF {α : Type} {g : D → En → Option En} {t : MT} {el : ME} {vs : List Nat} {e : En} (φ ψ : α → D) (xs : List α) (h : ∀ x ∈ xs, stepLc g t el vs (φ x) e = some (some (ψ x), e)) : runLc g t el vs (xs.map φ) e = .ok (xs.map ψ) e := by
  rw [runLc_fmF φ (fun x => some (ψ x)) xs h, filterMap_some']
theorem lc_at {g : D → En → Option En} {mi : MA} {t : MT} {el : ME} {vs : List Nat} {env e e4 e5 : En} {ds ys : List D} (hi : mi env = .ok ds e) (hz : ds.length ≤ sizeLine) (hno : noOw e vs = true) (hr : runLc g t el vs ds (wipeE e vs) = .ok ys e4) (h5 : restE e e4 vs = e5) : mLc g mi t el vs env = .ok ys e5 := by
  unfold mLc
  rw [hi]
  simp only [Res.bind_ok]
  rw [if_pos ⟨hz, hno⟩, hr, ← h5]
  rfl
theorem rng_at {m : MA} {e e1 : En} {j : Int} (h : m e = .ok [.int j] e1) (hin : Nm.inR j = true) : mRng1 m e = .ok (upto 0 j.toNat) e1 := by
  unfold mRng1
  rw [h]
  simp [hin]
theorem inR_nat {n : Nat} (h : n ≤ 1000000000) : Nm.inR (n : Int) = true := inR_of (by omega)
theorem rngN_at {m : MA} {e e1 : En} {n : Nat} (h : m e = .ok [.int (n : Nat)] e1) (hn : n ≤ 1000000000) : mRng1 m e = .ok ((List.range n).map fun i : Nat => D.int (i : Nat)) e1 := by
  rw [rng_at h (inR_nat hn), Int.toNat_natCast]
  have : upto 0 n = (List.range n).map fun i : Nat => D.int (i : Nat) := by
    unfold upto
    refine List.map_congr_left fun i _ => ?_
    rw [Int.zero_add]
  rw [this]
theorem for_at {g : D → En → Option En} {mi : MA} {b : MS} {e e1 : En} {ds : List D} (h : mi e = .ok ds e1) : sFor g mi b e = runFor g b ds e1 := by
  unfold sFor
  rw [h]
  rfl
theorem sSeq_nx {m m2 : MS} {e e1 : En} (h : m e = .nx e1) : sSeq m m2 e = m2 e1 := by
  unfold sSeq
  rw [h]
theorem sSeq_no {m m2 : MS} {e : En} {o : Out} (h : m e = o) (hn : ∀ e1, o ≠ .nx e1) : sSeq m m2 e = o := by
  unfold sSeq
  rw [h]
  cases o with
  | nx e1 => exact absurd rfl (hn e1)
  | _ => rfl
theorem setO_at {i : Nat} {m : MA} {e e1 : En} {ds : List D} (h : m e = .ok ds e1) : sSetO i m e = .nx (e1.set i (.ow ds)) := by
  unfold sSetO
  rw [h]
  rfl
theorem set_at {i : Nat} {m : ME} {e e1 : En} {d : D} (h : m e = .ok d e1) : sSet i m e = .nx (e1.set i (.sh d)) := by
  unfold sSet
  rw [h]
  rfl
theorem if_at {t : MT} {m m2 : MS} {e e1 : En} {b : Bool} (h : t e = .ok b e1) : sIf t m m2 e = if b = true then m e1 else m2 e1 := by
  unfold sIf
  rw [h]
  rfl
/-- one turn of a for loop -/
def stepFor (g : D → En → Option En) (b : MS) (d : D) (e : En) : Option En := match g d e with
  | none => none
  | some e1 => match b e1 with
    | .nx e2 => some e2
    | .ct e2 => some e2
    | _ => none
theorem runFor_rel {g : D → En → Option En} {b : MS} {α : Type} (R : α → En → Prop) (step : α → D → α) : ∀ (ds : List D) (a : α) (e : En), (∀ a e, R a e → ∀ d ∈ ds, ∃ e2, stepFor g b d e = some e2 ∧ R (step a d) e2) → R a e → ∃ e', runFor g b ds e = .nx e' ∧ R (ds.foldl step a) e'
  | [], a, e, _, h => ⟨e, rfl, h⟩
  | d :: ds, a, e, hs, h => by
    obtain ⟨e2, h1, h2⟩ := hs a e h d List.mem_cons_self
    obtain ⟨e', h3, h4⟩ := runFor_rel R step ds _ e2 (fun a e r x hx => hs a e r x (List.mem_cons_of_mem _ hx)) h2
    refine ⟨e', ?_, h4⟩
    unfold stepFor at h1
    unfold runFor
    cases hg : g d e with
    | none =>
      rw [hg] at h1
      cases h1
    | some e1 =>
    rw [hg] at h1
    dsimp only at h1 ⊢
    cases hb : b e1 with
    | nx e3 =>
      rw [hb] at h1
      cases h1
      exact h3
    | ct e3 =>
      rw [hb] at h1
      cases h1
      exact h3
    | rt r e3 =>
      rw [hb] at h1
      cases h1
    | bk e3 =>
      rw [hb] at h1
      cases h1
    | exc x e3 =>
      rw [hb] at h1
      cases h1
    | bad =>
      rw [hb] at h1
      cases h1
theorem runFor_inv {α : Type} {g : D → En → Option En} {b : MS} (φ : α → D) (R : Nat → En → Prop) : ∀ (xs : List α) (k : Nat) (e : En), (∀ (i : Nat) (e : En) (x : α), xs[i]? = some x → R (k + i) e → ∃ e2, stepFor g b (φ x) e = some e2 ∧ R (k + i + 1) e2) → R k e →
    ∃ e', runFor g b (xs.map φ) e = .nx e' ∧ R (k + xs.length) e'
  | [], k, e, _, h => ⟨e, rfl, h⟩
  | x :: xs, k, e, hs, h => by
    obtain ⟨e2, h1, h2⟩ := hs 0 e x rfl h
    obtain ⟨e', h3, h4⟩ := runFor_inv φ R xs (k + 1) e2 (fun i e y hy r => by
      have := hs (i + 1) e y (by simpa using hy) (by rw [show k + (i + 1) = k + 1 + i by omega]; exact r)
      rw [show k + (i + 1) + 1 = k + 1 + i + 1 by omega] at this
      exact this) h2
    refine ⟨e', ?_, by rw [List.length_cons, show k + (xs.length + 1) = k + 1 + xs.length by omega]; exact h4⟩
    rw [List.map_cons]
    unfold stepFor at h1
    unfold runFor
    cases hg : g (φ x) e with
    | none =>
      rw [hg] at h1
      cases h1
    | some e1 =>
    rw [hg] at h1
    dsimp only at h1 ⊢
    cases hb : b e1 with
    | nx e3 =>
      rw [hb] at h1
      cases h1
      exact h3
    | ct e3 =>
      rw [hb] at h1
      cases h1
      exact h3
    | rt r e3 =>
      rw [hb] at h1
      cases h1
    | bk e3 =>
      rw [hb] at h1
      cases h1
    | exc x e3 =>
      rw [hb] at h1
      cases h1
    | bad =>
      rw [hb] at h1
      cases h1
theorem filterMap_ext {α β : Type} {f g : α → Option β} : ∀ {l : List α}, (∀ x ∈ l, f x = g x) → l.filterMap f = l.filterMap g
  | [], _ => rfl
  | x :: l, h => by rw [List.filterMap_cons, List.filterMap_cons, h x List.mem_cons_self, filterMap_ext fun y hy => h y (List.mem_cons_of_mem _ hy)]
theorem map_ext {α β : Type} {f g : α → β} : ∀ {l : List α}, (∀ x ∈ l, f x = g x) → l.map f = l.map g
  | [], _ => rfl
  | x :: l, h => by rw [List.map_cons, List.map_cons, h x List.mem_cons_self, map_ext fun y hy => h y (List.mem_cons_of_mem _ hy)]
theorem upto0 (n : Nat) : upto 0 n = (List.range n).map fun i : Nat => D.int (i : Nat) := by
  unfold upto
  refine map_ext fun i _ => ?_
  rw [Int.zero_add]
@[simp] theorem len_pairs (ds : List D) : (pairs ds).length = ds.length := by simp [pairs]
@[simp] theorem len_upto (lo : Int) (n : Nat) : (upto lo n).length = n := by simp [upto]
@[simp] theorem len_downs (n : Nat) : (downs n).length = n := by simp [downs]
@[simp] theorem toIs_map' (ns : List Int) : toIs (ns.map D.int) = some ns := toIs_map ns
theorem atI_at {α : Type} {xs : List α} {i : Nat} (h : i < xs.length) : L2.atI xs (i : Int) = some xs[i] := L2.atI_nat (List.getElem?_eq_getElem h)

/-! ### == of data -/
/-- plain data of a depth -/
def okN (n : Nat) (d : D) : Prop := d.py.canLay0 = true ∧ d.py.depth ≤ n
theorem okN.eq {n : Nat} {d : D} (h : okN n d) (hn : n ≤ 64 := by decide) : okEq d = true := by
  unfold okEq SeqAt.shaped
  rw [h.1, decide_eq_true (Nat.le_trans h.2 hn)]
  rfl
theorem okN.mono {n m : Nat} {d : D} (h : okN n d) (k : n ≤ m := by decide) : okN m d := ⟨h.1, Nat.le_trans h.2 k⟩
theorem okN_int (i : Int) : okN 0 (.int i) := ⟨by simp [D.py, PyData.canLay0], by simp [D.py, PyData.depth]⟩
theorem okN_bl (b : Bool) : okN 0 (.bl b) := ⟨by simp [D.py, PyData.canLay0], by simp [D.py, PyData.depth]⟩
theorem okN_non : okN 0 .non := ⟨by simp [D.py, PyData.canLay0], by simp [D.py, PyData.depth]⟩
theorem okN_all {n : Nat} : ∀ {l : List D}, (∀ d ∈ l, okN n d) → PyData.canLayAll0 (pyAll l) = true ∧ PyData.depthAll (pyAll l) ≤ n
  | [], _ => ⟨by simp [pyAll, PyData.canLayAll0], by simp [pyAll, PyData.depthAll]⟩
  | d :: l, h => by
    have ih := okN_all fun x hx => h x (List.mem_cons_of_mem _ hx)
    have h0 := h d List.mem_cons_self
    refine ⟨by simp [pyAll, PyData.canLayAll0, h0.1, ih.1], ?_⟩
    simp only [pyAll, PyData.depthAll]
    exact Nat.max_le.mpr ⟨h0.2, ih.2⟩
theorem okN_lst {n : Nat} {l : List D} (h : ∀ d ∈ l, okN n d) : okN (n + 1) (.lst l) := by
  have := okN_all h
  exact ⟨by simp [D.py, PyData.canLay0, this.1], by simp only [D.py, PyData.depth]; exact Nat.succ_le_succ this.2⟩
theorem okN_tup {n : Nat} {l : List D} (h : ∀ d ∈ l, okN n d) : okN (n + 1) (.tup l) := by
  have := okN_all h
  exact ⟨by simp [D.py, PyData.canLay0, this.1], by simp only [D.py, PyData.depth]; exact Nat.succ_le_succ this.2⟩
theorem okN_ints (ns : List Int) : okN 1 (.lst (ns.map D.int)) := okN_lst fun d hd => by
  obtain ⟨n, _, rfl⟩ := List.mem_map.mp hd
  exact okN_int n
theorem okN_rows (rows : List (List Int)) : okN 2 (.lst (rows.map fun r => .lst (r.map D.int))) := okN_lst fun d hd => by
  obtain ⟨n, _, rfl⟩ := List.mem_map.mp hd
  exact okN_ints n
@[simp] theorem eqvD_nil (xs : List D) : eqvD (.lst xs) (.lst []) = xs.isEmpty := by
  cases xs with
  | nil => simp [eqvD, D.py, pyAll, PyData.eqv, PyData.eqvAll]
  | cons x xs => simp [eqvD, D.py, pyAll, PyData.eqv, PyData.eqvAll]
@[simp] theorem eqvD_int (i j : Int) : eqvD (.int i) (.int j) = (i == j) := by simp [eqvD, D.py, PyData.eqv]
mutual
theorem eqvD_self : ∀ d : D, PyData.eqv d.py d.py = true
  | .non => by simp [D.py, PyData.eqv]
  | .bl b => by simp [D.py, PyData.eqv]
  | .int i => by simp [D.py, PyData.eqv]
  | .str x => by simp [D.py, PyData.eqv]
  | .lst l => by simp only [D.py, PyData.eqv]; exact eqvAll_self l
  | .fz l => by simp only [D.py, PyData.eqv]; exact eqvAll_self l
  | .tup l => by simp only [D.py, PyData.eqv]; exact eqvAll_self l
theorem eqvAll_self : ∀ l : List D, PyData.eqvAll (pyAll l) (pyAll l) = true
  | [] => by simp [pyAll, PyData.eqvAll]
  | d :: l => by simp only [pyAll, PyData.eqvAll, Bool.and_eq_true]; exact ⟨eqvD_self d, eqvAll_self l⟩
end
@[simp] theorem eqvD_refl (d : D) : eqvD d d = true := eqvD_self d
@[simp] theorem okEq_int (i : Int) : okEq (.int i) = true := (okN_int i).eq
@[simp] theorem okEq_nil : okEq (.lst []) = true := (okN_ints []).eq
theorem okEq_ints (ns : List Int) : okEq (.lst (ns.map D.int)) = true := (okN_ints ns).eq
@[simp] theorem gEq_i (i j : Int) : gEq (.int i) (.int j) = some (.bl (i == j)) := by simp [gEq]
@[simp] theorem gNe_i (i j : Int) : gNe (.int i) (.int j) = some (.bl (!(i == j))) := by simp [gNe]
theorem gEq_nil {n : Nat} {xs : List D} (h : okN n (.lst xs)) (hn : n ≤ 64 := by decide) : gEq (.lst xs) (.lst []) = some (.bl xs.isEmpty) := by simp [gEq, h.eq hn]
theorem gNe_nil {n : Nat} {xs : List D} (h : okN n (.lst xs)) (hn : n ≤ 64 := by decide) : gNe (.lst xs) (.lst []) = some (.bl (!xs.isEmpty)) := by simp [gNe, h.eq hn]
@[simp] theorem gEq_ints (ns : List Int) : gEq (.lst (ns.map D.int)) (.lst []) = some (.bl ns.isEmpty) := by
  rw [gEq_nil (okN_ints ns)]
  cases ns <;> rfl
@[simp] theorem gNe_ints (ns : List Int) : gNe (.lst (ns.map D.int)) (.lst []) = some (.bl (!ns.isEmpty)) := by
  rw [gNe_nil (okN_ints ns)]
  cases ns <;> rfl
theorem gEq_self {n : Nat} {x : D} (h : okN n x) (hn : n ≤ 64 := by decide) : gEq x x = some (.bl true) := by simp [gEq, h.eq hn]
theorem gNe_self {n : Nat} {x : D} (h : okN n x) (hn : n ≤ 64 := by decide) : gNe x x = some (.bl false) := by simp [gNe, h.eq hn]
@[simp] theorem gEq_nn : gEq (.lst []) (.lst []) = some (.bl true) := gEq_ints []
@[simp] theorem gNe_nn : gNe (.lst []) (.lst []) = some (.bl false) := gNe_ints []
end Nm
end

section
set_option Elab.async false
set_option linter.all false
set_option maxRecDepth 100000
set_option maxHeartbeats 4000000
namespace K80
open PySem PySem.Spec PyProof.Rows L2 Nm

structure Ad where
  CN : Addr
  CT : Addr
  CM : Addr
  CR : Addr
  fI : Addr
  fd : FuncData
structure Tx (a : Ad) (P : Program) (w : World) (K : PySem.W.Frag) (mg : Str → Option Value) (base : Heap) : Prop where
  b_ValueError : mg "ValueError" = none
  b_bool : mg "bool" = none
  b_enumerate : mg "enumerate" = none
  b_int : mg "int" = none
  b_isinstance : mg "isinstance" = none
  b_len : mg "len" = none
  b_list : mg "list" = none
  b_min : mg "min" = none
  b_range : mg "range" = none
  b_reversed : mg "reversed" = none
  b_str : mg "str" = none
  b_sum : mg "sum" = none
  b_tuple : mg "tuple" = none
  g_MOST_ITEMS : ∃ t, mg "MOST_ITEMS" = some (.int 8 t)
  g_MOST_ENTRY : ∃ t, mg "MOST_ENTRY" = some (.int 1000 t)
  x_NoughtError : mg "NoughtError" = some (.ref a.CN)
  x_InvalidTable : XP P w K mg base "InvalidTable" a.CT a.fI a.fd
  x_TooMany : XT K mg "TooMany" a.CM
  x_InvalidRing : XR mg "InvalidRing" a.CR
  tk_NoughtError : ∀ q ∈ ([("InvalidTable", true), ("TooMany", true)] : List (Str × Bool)), ∃ cv, mg q.1 = some cv ∧ PySem.W.exmOne K cv (.ref a.CN) = some q.2
  is_InvalidTable : ∀ q ∈ ([("InvalidTable", true), ("TooMany", false)] : List (Str × Bool)), ∃ C, mg q.1 = some (.ref C) ∧ ExcC K C ∧ PySem.W.kitOne K (.ref C) (.ref a.CT) = some q.2
  is_TooMany : ∀ q ∈ ([("InvalidTable", false), ("TooMany", true)] : List (Str × Bool)), ∃ C, mg q.1 = some (.ref C) ∧ ExcC K C ∧ PySem.W.kitOne K (.ref C) (.ref a.CM) = some q.2
  is_InvalidRing : ∀ q ∈ ([("InvalidTable", false), ("TooMany", false)] : List (Str × Bool)), ∃ C, mg q.1 = some (.ref C) ∧ ExcC K C ∧ PySem.W.kitOne K (.ref C) (.ref a.CR) = some q.2
  is_ValueError : ∀ q ∈ ([("InvalidTable", true), ("TooMany", true)] : List (Str × Bool)), ∃ C, mg q.1 = some (.ref C) ∧ ExcC K C ∧ PySem.W.kitOne K (.ref C) (.type "ValueError") = some q.2
abbrev s_check_table : Stmt := PySem.Challenge.pw_noughtmeet_k80_choices_of_tables.main.body.getD 8 (.Pass ⟨0, 0, 0, 0⟩)
def m_check_table : MS :=
  (sSeq (sIf (mOr (mB (mBin gEq (mVar 0) (mL (mCB gLst mNil)))) (mNot (mB (mChain gLe gLe (mC (.int 1)) (mCB gLen (mCons (mBin gIx (mVar 0) (mC (.int 0))) mNil)) (mC (.int 8)))))) (sRaiseP "InvalidTable" "rows") sNx)
  (sSeq (sIf (mB (mBin gNe (mL (mLc (gNm 1) (mItems (mVar 0)) (mB (mBin gNe (mCB gLen (mCons (mVar 1) mNil)) (mCB gLen (mCons (mBin gIx (mVar 0) (mC (.int 0))) mNil)))) (mVar 1) [1])) (mL (mCB gLst mNil)))) (sRaiseP "InvalidTable" "rows") sNx)
  (sSeq (sIf (mB (mBin gNe (mL (mLc2 (gNm 1) (mItems (mVar 0)) mYes [1, 2] (mItems (mVar 1)) (gNm 2) (mNot (mB (mChain gLe gLe (mC (.int 0)) (mVar 2) (mC (.int 1000))))) (mVar 2) [2])) (mL (mCB gLst mNil)))) (sRaiseP "InvalidTable" "entry") sNx)
  (sIf (mB (mBin gNe (mL (mLc (gNm 3) (mRng1 (mCons (mCB gLen (mCons (mBin gIx (mVar 0) (mC (.int 0))) mNil)) mNil)) (mB (mBin gEq (mL (mLc (gNm 1) (mItems (mVar 0)) (mB (mBin gGt (mBin gIx (mVar 1) (mVar 3)) (mC (.int 0)))) (mVar 1) [1])) (mL (mCB gLst mNil)))) (mVar 3) [3])) (mL (mCB gLst mNil)))) (sRaiseP "InvalidTable" "column") sNx))))
theorem sc_check_table : FnScope ["table", "row", "entry", "column"] ["table"] (defScope s_check_table) := ⟨rfl, rfl, rfl, by decide +kernel, rfl, by decide +kernel, by decide +kernel⟩
theorem ok_check_table {a : Ad} {P : Program} {w : World} {K : PySem.W.Frag} {mg : Str → Option Value} {base : Heap} (T : Tx a P w K mg base) {f : Addr} {fd : FuncData} (F : Fun K "check_table" "check_table" s_check_table f fd) :
    FnOk P w K mg base (L2.CX P w) (3) f fd ["table"] (spF K mg 1 (frun 4 (m_check_table))) := by
  have nd := (sc_check_table).nd
  exact fn_ok (k := 2) F sc_check_table (fun cdv A outer s H E hr =>
    (db_cons (ds_if (DW.dt (dw_or (dt_cmp (op_eqD hr.units) opd_eq (de_var 0 (pv 0)) (de_do (do_lst da_nil)) (nomark _)) (dw_or1 (dt_not (dt_chain op_le op_le od_le od_le de_int (de_bi call_len cd_len rfl T.b_len PyProof.Rows.Boot.«len» (da_cons (de_ix ix_seq opd_ix (de_var 0 (pv 0)) de_int (fun _ _ => rfl)) da_nil)) (de_gi rfl T.g_MOST_ITEMS)))))) (db_one (ds_raiseP rfl (takes_of rfl rfl rfl rfl) T.x_InvalidTable.ox T.x_InvalidTable.iC T.x_InvalidTable.tI (T.x_InvalidTable.fn) (hr.mono (by decide)) T.x_InvalidTable.bd rfl T.x_InvalidTable.gC (by decide))) db_nil)
    (db_cons (ds_if (dt_cmp (op_neD hr.units) opd_ne (de_do (do_lcx (own := [("row", 1)]) (ix := [1]) rfl nd (blkOk_by (own := [("row", 1)]) (by kernel_rfl)) (di_list (de_var 0 (pv 0))) (fun _ _ _ _ _ => (dg_name (pg_name (i := 1) nd rfl (by first | exact Or.inl rfl | exact Or.inr rfl)))) (fun _ _ _ _ _ => (dts_one (dt_cmp (op_neD hr.units) opd_ne (de_bi call_len cd_len rfl T.b_len PyProof.Rows.Boot.«len» (da_cons (de_var 1 (pv 1)) da_nil)) (de_bi call_len cd_len rfl T.b_len PyProof.Rows.Boot.«len» (da_cons (de_ix ix_seq opd_ix (de_var 0 (pv 0)) de_int (fun _ _ => rfl)) da_nil)) (nomark _)))) (fun _ _ _ _ _ => (de_var 1 (pv 1))) (by decide))) (de_do (do_lst da_nil)) (nomark _)) (db_one (ds_raiseP rfl (takes_of rfl rfl rfl rfl) T.x_InvalidTable.ox T.x_InvalidTable.iC T.x_InvalidTable.tI (T.x_InvalidTable.fn) (hr.mono (by decide)) T.x_InvalidTable.bd rfl T.x_InvalidTable.gC (by decide))) db_nil)
    (db_cons (ds_if (dt_cmp (op_neD hr.units) opd_ne (de_do (do_lc2x (own := [("row", 1), ("entry", 2)]) (ix := [1]) (ix1 := [2]) (vs1 := [2]) rfl nd (blkOk_by (own := [("row", 1), ("entry", 2)]) (by kernel_rfl)) (by decide) (di_list (de_var 0 (pv 0))) (fun _ _ _ _ _ => (dg_name (pg_name (i := 1) nd rfl (by first | exact Or.inl rfl | exact Or.inr rfl)))) (fun _ _ _ _ _ => dts_nil) (fun _ _ _ _ _ => (di_list (de_var 1 (pv 1)))) (fun _ _ _ _ _ => (dg_name (pg_name (i := 2) nd rfl (by first | exact Or.inl rfl | exact Or.inr rfl)))) (fun _ _ _ _ _ => (dts_one (dt_not (dt_chain op_le op_le od_le od_le de_int (de_var 2 (pv 2)) (de_gi rfl T.g_MOST_ENTRY))))) (fun _ _ _ _ _ => (de_var 2 (pv 2))) (by decide) (by decide))) (de_do (do_lst da_nil)) (nomark _)) (db_one (ds_raiseP rfl (takes_of rfl rfl rfl rfl) T.x_InvalidTable.ox T.x_InvalidTable.iC T.x_InvalidTable.tI (T.x_InvalidTable.fn) (hr.mono (by decide)) T.x_InvalidTable.bd rfl T.x_InvalidTable.gC (by decide))) db_nil)
    (db_one (ds_if (dt_cmp (op_neD hr.units) opd_ne (de_do (do_lcx (own := [("column", 3)]) (ix := [3]) rfl nd (blkOk_by (own := [("column", 3)]) (by kernel_rfl)) (di_r1 rfl T.b_range (da_cons (de_bi call_len cd_len rfl T.b_len PyProof.Rows.Boot.«len» (da_cons (de_ix ix_seq opd_ix (de_var 0 (pv 0)) de_int (fun _ _ => rfl)) da_nil)) da_nil)) (fun _ _ _ _ _ => (dg_name (pg_name (i := 3) nd rfl (by first | exact Or.inl rfl | exact Or.inr rfl)))) (fun _ _ _ _ _ => (dts_one (dt_cmp (op_eqD hr.units) opd_eq (de_do (do_lcx (own := [("row", 1)]) (ix := [1]) rfl nd (blkOk_by (own := [("row", 1)]) (by kernel_rfl)) (di_list (de_var 0 (pv 0))) (fun _ _ _ _ _ => (dg_name (pg_name (i := 1) nd rfl (by first | exact Or.inl rfl | exact Or.inr rfl)))) (fun _ _ _ _ _ => (dts_one (dt_cmp op_gt od_gt (de_ix ix_seq opd_ix (de_var 1 (pv 1)) (de_var 3 (pv 3)) (fun _ _ => rfl)) de_int (nomark _)))) (fun _ _ _ _ _ => (de_var 1 (pv 1))) (by decide))) (de_do (do_lst da_nil)) (nomark _)))) (fun _ _ _ _ _ => (de_var 3 (pv 3))) (by decide))) (de_do (do_lst da_nil)) (nomark _)) (db_one (ds_raiseP rfl (takes_of rfl rfl rfl rfl) T.x_InvalidTable.ox T.x_InvalidTable.iC T.x_InvalidTable.tI (T.x_InvalidTable.fn) (hr.mono (by decide)) T.x_InvalidTable.bd rfl T.x_InvalidTable.gC (by decide))) db_nil))))))
abbrev s_totals : Stmt := PySem.Challenge.pw_noughtmeet_k80_choices_of_tables.main.body.getD 9 (.Pass ⟨0, 0, 0, 0⟩)
def m_totals : MS :=
  (sRetO (mLc (gNm 2) (mItems (mVar 0)) mYes (mCB gSum (mCons (mL (mLc (gTp 2 (gCons (gNm 3) (gCons (gNm 4) gNil))) (mEnum (mCons (mVar 2) mNil)) mYes (mBin gMul (mVar 4) (mBin gIx (mVar 1) (mVar 3))) [3, 4])) mNil)) [2]))
theorem sc_totals : FnScope ["table", "vector", "row", "place", "entry"] ["table", "vector"] (defScope s_totals) := ⟨rfl, rfl, rfl, by decide +kernel, rfl, by decide +kernel, by decide +kernel⟩
theorem ok_totals {a : Ad} {P : Program} {w : World} {K : PySem.W.Frag} {mg : Str → Option Value} {base : Heap} (T : Tx a P w K mg base) {f : Addr} {fd : FuncData} (F : Fun K "totals" "totals" s_totals f fd) :
    FnOk P w K mg base (L2.CX P w) (1) f fd ["table", "vector"] (spF K mg 2 (frun 5 (m_totals))) := by
  have nd := (sc_totals).nd
  exact fn_ok (k := 0) F sc_totals (fun cdv A outer s H E hr =>
    (db_one (ds_retO (do_lcx (own := [("row", 2)]) (ix := [2]) rfl nd (blkOk_by (own := [("row", 2)]) (by kernel_rfl)) (di_list (de_var 0 (pv 0))) (fun _ _ _ _ _ => (dg_name (pg_name (i := 2) nd rfl (by first | exact Or.inl rfl | exact Or.inr rfl)))) (fun _ _ _ _ _ => dts_nil) (fun _ _ _ _ _ => (de_bi (cr_sum rfl) cd_sum rfl T.b_sum PyProof.Rows.Boot.«sum» (da_cons (de_do (do_lcx (own := [("place", 3), ("entry", 4)]) (ix := [3, 4]) rfl nd (blkOk_by (own := [("place", 3), ("entry", 4)]) (by kernel_rfl)) (di_en rfl T.b_enumerate (da_cons (de_var 2 (pv 2)) da_nil)) (fun _ _ _ _ _ => (dg_tup (dgs_cons (dg_name (pg_name (i := 3) nd rfl (by first | exact Or.inl rfl | exact Or.inr rfl))) (dgs_cons (dg_name (pg_name (i := 4) nd rfl (by first | exact Or.inl rfl | exact Or.inr rfl))) dgs_nil (fun h1 h2 => pgs_cons h1 h2)) (fun h1 h2 => pgs_cons h1 h2)) (fun t ht => pg_tup rfl ht))) (fun _ _ _ _ _ => dts_nil) (fun _ _ _ _ _ => (de_op op_mul od_mul (de_var 4 (pv 4)) (de_ix ix_seq opd_ix (de_var 1 (pv 1)) (de_var 3 (pv 3)) (fun _ _ => rfl)))) (by decide))) da_nil))) (by decide)))))
abbrev s_most_pieces : Stmt := PySem.Challenge.pw_noughtmeet_k80_choices_of_tables.main.body.getD 10 (.Pass ⟨0, 0, 0, 0⟩)
def m_most_pieces : MS :=
  (sRet (mCB gMinL (mCons (mL (mLc (gTp 2 (gCons (gNm 2) (gCons (gNm 3) gNil))) (mEnum (mCons (mVar 0) mNil)) (mB (mBin gGt (mVar 3) (mC (.int 0)))) (mBin gDiv (mBin gIx (mVar 1) (mVar 2)) (mVar 3)) [2, 3])) mNil)))
theorem sc_most_pieces : FnScope ["column", "left", "place", "entry"] ["column", "left"] (defScope s_most_pieces) := ⟨rfl, rfl, rfl, by decide +kernel, rfl, by decide +kernel, by decide +kernel⟩
theorem ok_most_pieces {a : Ad} {P : Program} {w : World} {K : PySem.W.Frag} {mg : Str → Option Value} {base : Heap} (T : Tx a P w K mg base) {f : Addr} {fd : FuncData} (F : Fun K "most_pieces" "most_pieces" s_most_pieces f fd) :
    FnOk P w K mg base (L2.CX P w) (1) f fd ["column", "left"] (spF K mg 2 (frun 4 (m_most_pieces))) := by
  have nd := (sc_most_pieces).nd
  exact fn_ok (k := 0) F sc_most_pieces (fun cdv A outer s H E hr =>
    (db_one (ds_ret (de_bi (cr_min rfl) cd_minL rfl T.b_min PyProof.Rows.Boot.«min» (da_cons (de_do (do_lcx (own := [("place", 2), ("entry", 3)]) (ix := [2, 3]) rfl nd (blkOk_by (own := [("place", 2), ("entry", 3)]) (by kernel_rfl)) (di_en rfl T.b_enumerate (da_cons (de_var 0 (pv 0)) da_nil)) (fun _ _ _ _ _ => (dg_tup (dgs_cons (dg_name (pg_name (i := 2) nd rfl (by first | exact Or.inl rfl | exact Or.inr rfl))) (dgs_cons (dg_name (pg_name (i := 3) nd rfl (by first | exact Or.inl rfl | exact Or.inr rfl))) dgs_nil (fun h1 h2 => pgs_cons h1 h2)) (fun h1 h2 => pgs_cons h1 h2)) (fun t ht => pg_tup rfl ht))) (fun _ _ _ _ _ => (dts_one (dt_cmp op_gt od_gt (de_var 3 (pv 3)) de_int (nomark _)))) (fun _ _ _ _ _ => (de_op op_fdiv od_div (de_ix ix_seq opd_ix (de_var 1 (pv 1)) (de_var 2 (pv 2)) (fun _ _ => rfl)) (de_var 3 (pv 3)))) (by decide))) da_nil)))))
abbrev s_choices : Stmt := PySem.Challenge.pw_noughtmeet_k80_choices_of_tables.main.body.getD 11 (.Pass ⟨0, 0, 0, 0⟩)
def m_choices (f_check_table : List D → FR) (f_most_pieces : List D → FR) : MS :=
  (sSeq (sDrop (mCall 1 f_check_table (mCons (mVar 0) mNil)))
  (sSeq (sIf (mB (mBin gNe (mL (mLc (gNm 3) (mItems (mVar 1)) (mB (mBin gLt (mVar 3) (mC (.int 0)))) (mVar 3) [3])) (mL (mCB gLst mNil)))) (sRetO (mCB gLst mNil)) sNx)
  (sSeq (sSetO 4 (mLc (gNm 5) (mRng1 (mCons (mCB gLen (mCons (mBin gIx (mVar 0) (mC (.int 0))) mNil)) mNil)) mYes (mL (mLc (gNm 6) (mItems (mVar 0)) mYes (mBin gIx (mVar 6) (mVar 5)) [6])) [5]))
  (sSeq (sSetO 7 (mCB gLst mNil))
  (sSeq (sSetO 8 (mCB gLst (mCons (mCB gTup (mCons (mL (mCB gLst mNil)) (mCons (mL (mCB gList (mCons (mVar 1) mNil))) mNil))) mNil)))
  (sSeq (sWhile (mBorT (mB (mBin gNe (mVar 8) (mL (mCB gLst mNil))))) (sSeq (sPop 8 (gTp 2 (gCons (gNm 11) (gCons (gNm 12) gNil))))
  (sSeq (sFrz 4 (sIf (mB (mBin gEq (mCB gLen (mCons (mVar 11) mNil)) (mCB gLen (mCons (mVar 4) mNil)))) (sSeq (sIf (mB (mBin gEq (mL (mLc (gNm 3) (mItems (mVar 12)) (mB (mBin gNe (mVar 3) (mC (.int 0)))) (mVar 3) [3])) (mL (mCB gLst mNil)))) (sSeq (sAppend 7 (mVar 11))
  (sIf (mBorT (mB (mBin gGt (mCB gLen (mCons (mVar 7) mNil)) (mVar 2)))) (sRaiseT "TooMany") sNx)) sNx)
  sCt) sNx))
  (sSeq (sFrz 4 (sSet 9 (mBin gIx (mVar 4) (mCB gLen (mCons (mVar 11) mNil)))))
  (sFor (gNm 10) (mRev1 (mBin gAdd (mCall 2 f_most_pieces (mCons (mVar 9) (mCons (mVar 12) mNil))) (mC (.int 1)))) (sSeq (sSetO 13 (mLc (gTp 2 (gCons (gNm 5) (gCons (gNm 3) gNil))) (mEnum (mCons (mVar 12) mNil)) mYes (mBin gSub (mVar 3) (mBin gMul (mVar 10) (mBin gIx (mVar 9) (mVar 5)))) [5, 3]))
  (sFrz 13 (sAppend 8 (mCB gTup (mCons (mL (mBin gCat (mVar 11) (mL (mCB gLst (mCons (mVar 10) mNil))))) (mCons (mVar 13) mNil)))))))))))
  (sRetV 7)))))))
theorem sc_choices : FnScope ["table", "due", "most", "number", "columns", "place", "row", "found", "waiting", "column", "count", "begun", "left", "rest"] ["table", "due", "most"] (defScope s_choices) := ⟨rfl, rfl, rfl, by decide +kernel, rfl, by decide +kernel, by decide +kernel⟩
theorem ok_choices {a : Ad} {P : Program} {w : World} {K : PySem.W.Frag} {mg : Str → Option Value} {base : Heap} (T : Tx a P w K mg base) {f_check_table : List D → FR} {f_most_pieces : List D → FR} (c_check_table : CalN P w K mg base 3 "check_table" 1 f_check_table) (c_most_pieces : CalN P w K mg base 1 "most_pieces" 2 f_most_pieces) {f : Addr} {fd : FuncData} (F : Fun K "choices" "choices" s_choices f fd) :
    FnOk P w K mg base (L2.CX P w) (4) f fd ["table", "due", "most"] (spF K mg 3 (frun 14 (m_choices f_check_table f_most_pieces))) := by
  have nd := (sc_choices).nd
  exact fn_ok (k := 3) F sc_choices (fun cdv A outer s H E hr =>
    (db_cons (ds_expr (de_cl c_check_table hr (by decide) rfl (takes_of rfl rfl rfl rfl) (da_cons (de_var 0 (pv 0)) da_nil)))
    (db_cons (ds_if (dt_cmp (op_neD hr.units) opd_ne (de_do (do_lcx (own := [("number", 3)]) (ix := [3]) rfl nd (blkOk_by (own := [("number", 3)]) (by kernel_rfl)) (di_list (de_var 1 (pv 1))) (fun _ _ _ _ _ => (dg_name (pg_name (i := 3) nd rfl (by first | exact Or.inl rfl | exact Or.inr rfl)))) (fun _ _ _ _ _ => (dts_one (dt_cmp op_lt od_lt (de_var 3 (pv 3)) de_int (nomark _)))) (fun _ _ _ _ _ => (de_var 3 (pv 3))) (by decide))) (de_do (do_lst da_nil)) (nomark _)) (db_one (ds_retO (do_lst da_nil))) db_nil)
    (db_cons (ds_lcx (i := 4) (own := [("place", 5)]) (ix := [5]) rfl nd rfl rfl rfl rfl (by decide +kernel) (blkOk_by (own := [("place", 5)]) (by kernel_rfl)) (di_r1 rfl T.b_range (da_cons (de_bi call_len cd_len rfl T.b_len PyProof.Rows.Boot.«len» (da_cons (de_ix ix_seq opd_ix (de_var 0 (pv 0)) de_int (fun _ _ => rfl)) da_nil)) da_nil)) (fun _ _ _ _ _ => (dg_name (pg_name (i := 5) nd rfl (by first | exact Or.inl rfl | exact Or.inr rfl)))) (fun _ _ _ _ _ => dts_nil) (fun _ _ _ _ _ => (de_do (do_lcx (own := [("row", 6)]) (ix := [6]) rfl nd (blkOk_by (own := [("row", 6)]) (by kernel_rfl)) (di_list (de_var 0 (pv 0))) (fun _ _ _ _ _ => (dg_name (pg_name (i := 6) nd rfl (by first | exact Or.inl rfl | exact Or.inr rfl)))) (fun _ _ _ _ _ => dts_nil) (fun _ _ _ _ _ => (de_ix ix_seq opd_ix (de_var 6 (pv 6)) (de_var 5 (pv 5)) (fun _ _ => rfl))) (by decide)))) (by decide))
    (db_cons (ds_setO (i := 7) (do_lst da_nil) (fun t ht => ps_set (i := 7) nd rfl (by first | exact Or.inl rfl | exact Or.inr rfl) ht))
    (db_cons (ds_setO (i := 8) (do_lst (da_cons (de_tup (da_cons (de_do (do_lst da_nil)) (da_cons (de_do (do_ty call_list_of cl_list rfl T.b_list PyProof.Rows.Boot.«list» (da_cons (de_var 1 (pv 1)) da_nil))) da_nil))) da_nil)) (fun t ht => ps_set (i := 8) nd rfl (by first | exact Or.inl rfl | exact Or.inr rfl) ht))
    (db_cons (ds_while (dt_bor (dt_cmp (op_neD hr.units) opd_ne (de_var 8 (pv 8)) (de_do (do_lst da_nil)) (nomark _))) (db_cons (ds_pop (i := 8) (ix := [11, 12]) (dg_tup (dgs_cons (dg_name (pg_name (i := 11) nd rfl (by first | exact Or.inl rfl | exact Or.inr rfl))) (dgs_cons (dg_name (pg_name (i := 12) nd rfl (by first | exact Or.inl rfl | exact Or.inr rfl))) dgs_nil (fun h1 h2 => pgs_cons h1 h2)) (fun h1 h2 => pgs_cons h1 h2)) (fun t ht => pg_tup rfl ht)) (fun u hu => ps_asg (pe_bm0 PySem.F.plainAttrs_list PySem.F.slot_list_pop PySem.F.type_list_pop mt_pop (pv 8)) hu))
    (db_cons (ds_frz' 4 (ds_if (dt_cmp (op_eqD hr.units) opd_eq (de_bi call_len cd_len rfl T.b_len PyProof.Rows.Boot.«len» (da_cons (de_var 11 (pv 11)) da_nil)) (de_bi call_len cd_len rfl T.b_len PyProof.Rows.Boot.«len» (da_cons (de_var 4 (pv 4)) da_nil)) (nomark _)) (db_cons (ds_if (dt_cmp (op_eqD hr.units) opd_eq (de_do (do_lcx (own := [("number", 3)]) (ix := [3]) rfl nd (blkOk_by (own := [("number", 3)]) (by kernel_rfl)) (di_list (de_var 12 (pv 12))) (fun _ _ _ _ _ => (dg_name (pg_name (i := 3) nd rfl (by first | exact Or.inl rfl | exact Or.inr rfl)))) (fun _ _ _ _ _ => (dts_one (dt_cmp (op_neD hr.units) opd_ne (de_var 3 (pv 3)) de_int (nomark _)))) (fun _ _ _ _ _ => (de_var 3 (pv 3))) (by decide))) (de_do (do_lst da_nil)) (nomark _)) (db_cons (ds_append (i := 7) (pv 7) (de_var 11 (pv 11)))
    (db_one (ds_if (dt_bor (dt_cmp op_gt od_gt (de_bi call_len cd_len rfl T.b_len PyProof.Rows.Boot.«len» (da_cons (de_var 7 (pv 7)) da_nil)) (de_var 2 (pv 2)) (nomark _))) (db_one (ds_raiseT rfl (takes_of rfl rfl rfl rfl) PySem.F.excBase_ValueError T.x_TooMany.ec T.x_TooMany.gC T.x_TooMany.kC (raises_own T.x_TooMany.exC T.x_TooMany.tyC) rfl)) db_nil))) db_nil)
    (db_one ds_continue)) db_nil))
    (db_cons (ds_frz' 4 (ds_set (i := 9) (de_ix ix_seq opd_ix (de_var 4 (pv 4)) (de_bi call_len cd_len rfl T.b_len PyProof.Rows.Boot.«len» (da_cons (de_var 11 (pv 11)) da_nil)) (fun _ _ => rfl)) (fun t ht => ps_set (i := 9) nd rfl (by first | exact Or.inl rfl | exact Or.inr rfl) ht)))
    (db_one (ds_for (ix := [10]) (di_rev1 rfl T.b_reversed rfl T.b_range (de_op op_add od_add (de_cl c_most_pieces hr (by decide) rfl (takes_of rfl rfl rfl rfl) (da_cons (de_var 9 (pv 9)) (da_cons (de_var 12 (pv 12)) da_nil))) de_int)) (dg_name (pg_name (i := 10) nd rfl (by first | exact Or.inl rfl | exact Or.inr rfl))) (db_cons (ds_lcx (i := 13) (own := [("place", 5), ("number", 3)]) (ix := [5, 3]) rfl nd rfl rfl rfl rfl (by decide +kernel) (blkOk_by (own := [("place", 5), ("number", 3)]) (by kernel_rfl)) (di_en rfl T.b_enumerate (da_cons (de_var 12 (pv 12)) da_nil)) (fun _ _ _ _ _ => (dg_tup (dgs_cons (dg_name (pg_name (i := 5) nd rfl (by first | exact Or.inl rfl | exact Or.inr rfl))) (dgs_cons (dg_name (pg_name (i := 3) nd rfl (by first | exact Or.inl rfl | exact Or.inr rfl))) dgs_nil (fun h1 h2 => pgs_cons h1 h2)) (fun h1 h2 => pgs_cons h1 h2)) (fun t ht => pg_tup rfl ht))) (fun _ _ _ _ _ => dts_nil) (fun _ _ _ _ _ => (de_op op_sub od_sub (de_var 3 (pv 3)) (de_op op_mul od_mul (de_var 10 (pv 10)) (de_ix ix_seq opd_ix (de_var 9 (pv 9)) (de_var 5 (pv 5)) (fun _ _ => rfl))))) (by decide))
    (db_one (ds_frz' 13 (ds_append (i := 8) (pv 8) (de_tup (da_cons (de_do (do_op op_cat opl_cat (de_var 11 (pv 11)) (de_do (do_lst (da_cons (de_var 10 (pv 10)) da_nil))))) (da_cons (de_var 13 (pv 13)) da_nil))))))) (fun wi u t h1 h2 h3 => ps_for (passes_of rfl) rfl h1 h2 h3)))))) (fun u v hu hv => ps_while (passes_of rfl) hu hv))
    (db_one (ds_retV (pv 7))))))))))
abbrev s_law_cell : Stmt := PySem.Challenge.pw_noughtmeet_k80_choices_of_tables.main.body.getD 13 (.Pass ⟨0, 0, 0, 0⟩)
def m_law_cell : MS :=
  (sSeq (sIf (mAnd (mB (mBin gLt (mVar 1) (mCB gLen (mCons (mVar 0) mNil)))) (mB (mBin gGe (mBin gIx (mVar 0) (mVar 1)) (mBin gPow (mC (.int 10)) (mC (.int 9)))))) (sRet (mBin gIx (mVar 0) (mVar 1))) sNx)
  (sSeq (sSet 2 (mBin gAdd (mBin gMul (mC (.int 7)) (mVar 1)) (mC (.int 1))))
  (sSeq (sIf (mB (mBin gGt (mCB gLen (mCons (mVar 0) mNil)) (mC (.int 0)))) (sSet 2 (mBin gAdd (mVar 2) (mBin gMul (mC (.int 31)) (mBin gIx (mVar 0) (mBin gMod (mCB gInt (mCons (mVar 1) mNil)) (mCB gLen (mCons (mVar 0) mNil))))))) sNx)
  (sSeq (sSet 2 (mBin gMod (mCB gInt (mCons (mBin gAdd (mBin gMul (mVar 2) (mC (.int 48271))) (mBin gMul (mC (.int 69621)) (mVar 1))) mNil)) (mC (.int 2147483647))))
  (sRet (mBin gMod (mCB gInt (mCons (mBin gAdd (mBin gMul (mVar 2) (mC (.int 69621))) (mBin gMul (mC (.int 48271)) (mBin gDiv (mVar 2) (mC (.int 1000))))) mNil)) (mC (.int 2147483629))))))))
theorem sc_law_cell : FnScope ["script", "k", "cell"] ["script", "k"] (defScope s_law_cell) := ⟨rfl, rfl, rfl, by decide +kernel, rfl, by decide +kernel, by decide +kernel⟩
theorem ok_law_cell {a : Ad} {P : Program} {w : World} {K : PySem.W.Frag} {mg : Str → Option Value} {base : Heap} (T : Tx a P w K mg base) {f : Addr} {fd : FuncData} (F : Fun K "_law_cell" "_law_cell" s_law_cell f fd) :
    FnOk P w K mg base (L2.CX P w) (1) f fd ["script", "k"] (spF K mg 2 (frun 3 (m_law_cell))) := by
  have nd := (sc_law_cell).nd
  exact fn_ok (k := 0) F sc_law_cell (fun cdv A outer s H E hr =>
    (db_cons (ds_if (DW.dt (dw_and (dt_cmp op_lt od_lt (de_var 1 (pv 1)) (de_bi call_len cd_len rfl T.b_len PyProof.Rows.Boot.«len» (da_cons (de_var 0 (pv 0)) da_nil)) (nomark _)) (dw_and1 (dt_cmp op_ge od_ge (de_ix ix_seq opd_ix (de_var 0 (pv 0)) (de_var 1 (pv 1)) (fun _ _ => rfl)) (de_op op_pow od_pow de_int de_int) (nomark _))))) (db_one (ds_ret (de_ix ix_seq opd_ix (de_var 0 (pv 0)) (de_var 1 (pv 1)) (fun _ _ => rfl)))) db_nil)
    (db_cons (ds_set (i := 2) (de_op op_add od_add (de_op op_mul od_mul de_int (de_var 1 (pv 1))) de_int) (fun t ht => ps_set (i := 2) nd rfl (by first | exact Or.inl rfl | exact Or.inr rfl) ht))
    (db_cons (ds_if (dt_cmp op_gt od_gt (de_bi call_len cd_len rfl T.b_len PyProof.Rows.Boot.«len» (da_cons (de_var 0 (pv 0)) da_nil)) de_int (nomark _)) (db_one (ds_set (i := 2) (de_op op_add od_add (de_var 2 (pv 2)) (de_op op_mul od_mul de_int (de_ix ix_seq opd_ix (de_var 0 (pv 0)) (de_op op_mod od_mod (de_ty call_int1 cd_int rfl T.b_int PyProof.Rows.Boot.«int» (da_cons (de_var 1 (pv 1)) da_nil)) (de_bi call_len cd_len rfl T.b_len PyProof.Rows.Boot.«len» (da_cons (de_var 0 (pv 0)) da_nil))) (fun _ _ => rfl)))) (fun t ht => ps_set (i := 2) nd rfl (by first | exact Or.inl rfl | exact Or.inr rfl) ht))) db_nil)
    (db_cons (ds_set (i := 2) (de_op op_mod od_mod (de_ty call_int1 cd_int rfl T.b_int PyProof.Rows.Boot.«int» (da_cons (de_op op_add od_add (de_op op_mul od_mul (de_var 2 (pv 2)) de_int) (de_op op_mul od_mul de_int (de_var 1 (pv 1)))) da_nil)) de_int) (fun t ht => ps_set (i := 2) nd rfl (by first | exact Or.inl rfl | exact Or.inr rfl) ht))
    (db_one (ds_ret (de_op op_mod od_mod (de_ty call_int1 cd_int rfl T.b_int PyProof.Rows.Boot.«int» (da_cons (de_op op_add od_add (de_op op_mul od_mul (de_var 2 (pv 2)) de_int) (de_op op_mul od_mul de_int (de_op op_fdiv od_div (de_var 2 (pv 2)) de_int))) da_nil)) de_int))))))))
abbrev s_law_digits : Stmt := PySem.Challenge.pw_noughtmeet_k80_choices_of_tables.main.body.getD 14 (.Pass ⟨0, 0, 0, 0⟩)
def m_law_digits (f_law_cell : List D → FR) : MS :=
  (sSeq (sSet 4 (mC (.int 4)))
  (sSeq (sIf (mB (mBin gLe (mVar 3) (mC (.int 31)))) (sSet 4 (mC (.int 6))) sNx)
  (sSeq (sIf (mB (mBin gLe (mVar 3) (mC (.int 9)))) (sSet 4 (mC (.int 9))) sNx)
  (sSeq (sIf (mB (mBin gLe (mVar 3) (mC (.int 5)))) (sSet 4 (mC (.int 12))) sNx)
  (sSeq (sSetO 5 (mCB gLst mNil))
  (sSeq (sSet 6 (mC (.int 0)))
  (sSeq (sFor (gNm 7) (mRng1 (mCons (mVar 2) mNil)) (sSeq (sIf (mB (mBin gEq (mBin gMod (mCB gInt (mCons (mVar 7) mNil)) (mVar 4)) (mC (.int 0)))) (sSet 6 (mCall 2 f_law_cell (mCons (mVar 0) (mCons (mBin gAdd (mVar 1) (mBin gDiv (mVar 7) (mVar 4))) mNil)))) sNx)
  (sSeq (sAppend 5 (mBin gMod (mCB gInt (mCons (mVar 6) mNil)) (mVar 3)))
  (sSet 6 (mCB gInt (mCons (mBin gDiv (mVar 6) (mVar 3)) mNil))))))
  (sRetV 5))))))))
theorem sc_law_digits : FnScope ["script", "at", "count", "base", "per", "found", "cell", "k"] ["script", "at", "count", "base"] (defScope s_law_digits) := ⟨rfl, rfl, rfl, by decide +kernel, rfl, by decide +kernel, by decide +kernel⟩
theorem ok_law_digits {a : Ad} {P : Program} {w : World} {K : PySem.W.Frag} {mg : Str → Option Value} {base : Heap} (T : Tx a P w K mg base) {f_law_cell : List D → FR} (c_law_cell : CalN P w K mg base 1 "_law_cell" 2 f_law_cell) {f : Addr} {fd : FuncData} (F : Fun K "_law_digits" "_law_digits" s_law_digits f fd) :
    FnOk P w K mg base (L2.CX P w) (2) f fd ["script", "at", "count", "base"] (spF K mg 4 (frun 8 (m_law_digits f_law_cell))) := by
  have nd := (sc_law_digits).nd
  exact fn_ok (k := 1) F sc_law_digits (fun cdv A outer s H E hr =>
    (db_cons (ds_set (i := 4) de_int (fun t ht => ps_set (i := 4) nd rfl (by first | exact Or.inl rfl | exact Or.inr rfl) ht))
    (db_cons (ds_if (dt_cmp op_le od_le (de_var 3 (pv 3)) de_int (nomark _)) (db_one (ds_set (i := 4) de_int (fun t ht => ps_set (i := 4) nd rfl (by first | exact Or.inl rfl | exact Or.inr rfl) ht))) db_nil)
    (db_cons (ds_if (dt_cmp op_le od_le (de_var 3 (pv 3)) de_int (nomark _)) (db_one (ds_set (i := 4) de_int (fun t ht => ps_set (i := 4) nd rfl (by first | exact Or.inl rfl | exact Or.inr rfl) ht))) db_nil)
    (db_cons (ds_if (dt_cmp op_le od_le (de_var 3 (pv 3)) de_int (nomark _)) (db_one (ds_set (i := 4) de_int (fun t ht => ps_set (i := 4) nd rfl (by first | exact Or.inl rfl | exact Or.inr rfl) ht))) db_nil)
    (db_cons (ds_setO (i := 5) (do_lst da_nil) (fun t ht => ps_set (i := 5) nd rfl (by first | exact Or.inl rfl | exact Or.inr rfl) ht))
    (db_cons (ds_set (i := 6) de_int (fun t ht => ps_set (i := 6) nd rfl (by first | exact Or.inl rfl | exact Or.inr rfl) ht))
    (db_cons (ds_for (ix := [7]) (di_r1 rfl T.b_range (da_cons (de_var 2 (pv 2)) da_nil)) (dg_name (pg_name (i := 7) nd rfl (by first | exact Or.inl rfl | exact Or.inr rfl))) (db_cons (ds_if (dt_cmp (op_eqD hr.units) opd_eq (de_op op_mod od_mod (de_ty call_int1 cd_int rfl T.b_int PyProof.Rows.Boot.«int» (da_cons (de_var 7 (pv 7)) da_nil)) (de_var 4 (pv 4))) de_int (nomark _)) (db_one (ds_set (i := 6) (de_cl c_law_cell hr (by decide) rfl (takes_of rfl rfl rfl rfl) (da_cons (de_var 0 (pv 0)) (da_cons (de_op op_add od_add (de_var 1 (pv 1)) (de_op op_fdiv od_div (de_var 7 (pv 7)) (de_var 4 (pv 4)))) da_nil))) (fun t ht => ps_set (i := 6) nd rfl (by first | exact Or.inl rfl | exact Or.inr rfl) ht))) db_nil)
    (db_cons (ds_append (i := 5) (pv 5) (de_op op_mod od_mod (de_ty call_int1 cd_int rfl T.b_int PyProof.Rows.Boot.«int» (da_cons (de_var 6 (pv 6)) da_nil)) (de_var 3 (pv 3))))
    (db_one (ds_set (i := 6) (de_ty call_int1 cd_int rfl T.b_int PyProof.Rows.Boot.«int» (da_cons (de_op op_fdiv od_div (de_var 6 (pv 6)) (de_var 3 (pv 3))) da_nil)) (fun t ht => ps_set (i := 6) nd rfl (by first | exact Or.inl rfl | exact Or.inr rfl) ht))))) (fun wi u t h1 h2 h3 => ps_for (passes_of rfl) rfl h1 h2 h3))
    (db_one (ds_retV (pv 5)))))))))))
abbrev s_law_same : Stmt := PySem.Challenge.pw_noughtmeet_k80_choices_of_tables.main.body.getD 15 (.Pass ⟨0, 0, 0, 0⟩)
def m_law_same (f_law_same : List D → FR) : MS :=
  (sSeq (sIf (mOr (mB (mIsi isList (mVar 1))) (mB (mIsi isTuple (mVar 1)))) (sSeq (sIf (mOr (mAnd (mB (mIsi isList (mVar 1))) (mNot (mB (mIsi isList (mVar 0))))) (mAnd (mB (mIsi isTuple (mVar 1))) (mNot (mB (mIsi isTuple (mVar 0)))))) (sRet (mC (.bl false))) sNx)
  (sSeq (sIf (mB (mBin gNe (mCB gLen (mCons (mVar 0) mNil)) (mCB gLen (mCons (mVar 1) mNil)))) (sRet (mC (.bl false))) sNx)
  (sRet (mBin gEq (mL (mLc (gNm 2) (mRng1 (mCons (mCB gLen (mCons (mVar 1) mNil)) mNil)) (mNot (mB (mCall 2 f_law_same (mCons (mBin gIx (mVar 0) (mVar 2)) (mCons (mBin gIx (mVar 1) (mVar 2)) mNil))))) (mVar 2) [2])) (mL (mCB gLst mNil)))))) sNx)
  (sSeq (sIf (mB (mBin gIsN (mVar 1) (mC .non))) (sRet (mBin gIsN (mVar 0) (mC .non))) sNx)
  (sSeq (sIf (mB (mIsi isBool (mVar 1))) (sRet (mAndV (mIsi isBool (mVar 0)) (mBin gEq (mVar 0) (mVar 1)))) sNx)
  (sSeq (sIf (mB (mIsi isStr (mVar 1))) (sRet (mAndV (mIsi isStr (mVar 0)) (mBin gEq (mVar 0) (mVar 1)))) sNx)
  (sRet (mAndV (mIsi isInt (mVar 0)) (mAndV (mNotV (mIsi isBool (mVar 0))) (mBin gEq (mVar 0) (mVar 1)))))))))
theorem sc_law_same : FnScope ["told", "due", "k"] ["told", "due"] (defScope s_law_same) := ⟨rfl, rfl, rfl, by decide +kernel, rfl, by decide +kernel, by decide +kernel⟩
theorem ok_law_same {a : Ad} {P : Program} {w : World} {K : PySem.W.Frag} {mg : Str → Option Value} {base : Heap} (T : Tx a P w K mg base) {f_law_same : List D → FR} {k : Nat} (c_law_same : CalN P w K mg base k "_law_same" 2 f_law_same) {f : Addr} {fd : FuncData} (F : Fun K "_law_same" "_law_same" s_law_same f fd) :
    FnOk P w K mg base (L2.CX P w) (k + 1) f fd ["told", "due"] (spF K mg 2 (frun 3 (m_law_same f_law_same))) := by
  have nd := (sc_law_same).nd
  exact fn_ok (k := k) F sc_law_same (fun cdv A outer s H E hr =>
    (db_cons (ds_if (DW.dt (dw_or (dt_val (de_is kit_list rfl T.b_isinstance rfl T.b_list PyProof.Rows.Boot.«list» (de_var 1 (pv 1)))) (dw_or1 (dt_val (de_is kit_tuple rfl T.b_isinstance rfl T.b_tuple PyProof.Rows.Boot.«tuple» (de_var 1 (pv 1))))))) (db_cons (ds_if (DW.dt (dw_or (DW.dt (dw_and (dt_val (de_is kit_list rfl T.b_isinstance rfl T.b_list PyProof.Rows.Boot.«list» (de_var 1 (pv 1)))) (dw_and1 (dt_not (dt_val (de_is kit_list rfl T.b_isinstance rfl T.b_list PyProof.Rows.Boot.«list» (de_var 0 (pv 0)))))))) (dw_or1 (DW.dt (dw_and (dt_val (de_is kit_tuple rfl T.b_isinstance rfl T.b_tuple PyProof.Rows.Boot.«tuple» (de_var 1 (pv 1)))) (dw_and1 (dt_not (dt_val (de_is kit_tuple rfl T.b_isinstance rfl T.b_tuple PyProof.Rows.Boot.«tuple» (de_var 0 (pv 0))))))))))) (db_one (ds_ret de_bl)) db_nil)
    (db_cons (ds_if (dt_cmp (op_neD hr.units) opd_ne (de_bi call_len cd_len rfl T.b_len PyProof.Rows.Boot.«len» (da_cons (de_var 0 (pv 0)) da_nil)) (de_bi call_len cd_len rfl T.b_len PyProof.Rows.Boot.«len» (da_cons (de_var 1 (pv 1)) da_nil)) (nomark _)) (db_one (ds_ret de_bl)) db_nil)
    (db_one (ds_ret (de_cmp (op_eqD hr.units) opd_eq (de_do (do_lcx (own := [("k", 2)]) (ix := [2]) rfl nd (blkOk_by (own := [("k", 2)]) (by kernel_rfl)) (di_r1 rfl T.b_range (da_cons (de_bi call_len cd_len rfl T.b_len PyProof.Rows.Boot.«len» (da_cons (de_var 1 (pv 1)) da_nil)) da_nil)) (fun _ _ _ _ _ => (dg_name (pg_name (i := 2) nd rfl (by first | exact Or.inl rfl | exact Or.inr rfl)))) (fun _ _ _ _ _ => (dts_one (dt_not (dt_val (de_cl c_law_same hr (Nat.le_refl _) rfl takes0 (da_cons (de_ix ix_seq opd_ix (de_var 0 (pv 0)) (de_var 2 (pv 2)) (fun _ _ => rfl)) (da_cons (de_ix ix_seq opd_ix (de_var 1 (pv 1)) (de_var 2 (pv 2)) (fun _ _ => rfl)) da_nil))))))) (fun _ _ _ _ _ => (de_var 2 (pv 2))) (by decide))) (de_do (do_lst da_nil)) (nomark _)))))) db_nil)
    (db_cons (ds_if (dt_cmp op_isN opd_isN (de_var 1 (pv 1)) de_non (nomark _)) (db_one (ds_ret (de_cmp op_isN opd_isN (de_var 0 (pv 0)) de_non (nomark _)))) db_nil)
    (db_cons (ds_if (dt_val (de_is kit_bool rfl T.b_isinstance rfl T.b_bool PyProof.Rows.Boot.«bool» (de_var 1 (pv 1)))) (db_one (ds_ret (de_and (de_is kit_bool rfl T.b_isinstance rfl T.b_bool PyProof.Rows.Boot.«bool» (de_var 0 (pv 0))) (de_one (de_cmp (op_eqD hr.units) opd_eq (de_var 0 (pv 0)) (de_var 1 (pv 1)) (nomark _)))))) db_nil)
    (db_cons (ds_if (dt_val (de_is kit_str rfl T.b_isinstance rfl T.b_str PyProof.Rows.Boot.«str» (de_var 1 (pv 1)))) (db_one (ds_ret (de_and (de_is kit_str rfl T.b_isinstance rfl T.b_str PyProof.Rows.Boot.«str» (de_var 0 (pv 0))) (de_one (de_cmp (op_eqD hr.units) opd_eq (de_var 0 (pv 0)) (de_var 1 (pv 1)) (nomark _)))))) db_nil)
    (db_one (ds_ret (de_and (de_is kit_int rfl T.b_isinstance rfl T.b_int PyProof.Rows.Boot.«int» (de_var 0 (pv 0))) (de_and (de_not (de_is kit_bool rfl T.b_isinstance rfl T.b_bool PyProof.Rows.Boot.«bool» (de_var 0 (pv 0)))) (de_one (de_cmp (op_eqD hr.units) opd_eq (de_var 0 (pv 0)) (de_var 1 (pv 1)) (nomark _))))))))))))
abbrev s_law_totals : Stmt := PySem.Challenge.pw_noughtmeet_k80_choices_of_tables.main.body.getD 17 (.Pass ⟨0, 0, 0, 0⟩)
def m_law_totals : MS :=
  (sRetO (mLc (gNm 2) (mItems (mVar 0)) mYes (mCB gSum (mCons (mL (mLc (gNm 3) (mRng1 (mCons (mCB gLen (mCons (mVar 2) mNil)) mNil)) mYes (mBin gMul (mBin gIx (mVar 2) (mVar 3)) (mBin gIx (mVar 1) (mVar 3))) [3])) mNil)) [2]))
theorem sc_law_totals : FnScope ["table", "vector", "row", "j"] ["table", "vector"] (defScope s_law_totals) := ⟨rfl, rfl, rfl, by decide +kernel, rfl, by decide +kernel, by decide +kernel⟩
theorem ok_law_totals {a : Ad} {P : Program} {w : World} {K : PySem.W.Frag} {mg : Str → Option Value} {base : Heap} (T : Tx a P w K mg base) {f : Addr} {fd : FuncData} (F : Fun K "_law_totals" "_law_totals" s_law_totals f fd) :
    FnOk P w K mg base (L2.CX P w) (1) f fd ["table", "vector"] (spF K mg 2 (frun 4 (m_law_totals))) := by
  have nd := (sc_law_totals).nd
  exact fn_ok (k := 0) F sc_law_totals (fun cdv A outer s H E hr =>
    (db_one (ds_retO (do_lcx (own := [("row", 2)]) (ix := [2]) rfl nd (blkOk_by (own := [("row", 2)]) (by kernel_rfl)) (di_list (de_var 0 (pv 0))) (fun _ _ _ _ _ => (dg_name (pg_name (i := 2) nd rfl (by first | exact Or.inl rfl | exact Or.inr rfl)))) (fun _ _ _ _ _ => dts_nil) (fun _ _ _ _ _ => (de_bi (cr_sum rfl) cd_sum rfl T.b_sum PyProof.Rows.Boot.«sum» (da_cons (de_do (do_lcx (own := [("j", 3)]) (ix := [3]) rfl nd (blkOk_by (own := [("j", 3)]) (by kernel_rfl)) (di_r1 rfl T.b_range (da_cons (de_bi call_len cd_len rfl T.b_len PyProof.Rows.Boot.«len» (da_cons (de_var 2 (pv 2)) da_nil)) da_nil)) (fun _ _ _ _ _ => (dg_name (pg_name (i := 3) nd rfl (by first | exact Or.inl rfl | exact Or.inr rfl)))) (fun _ _ _ _ _ => dts_nil) (fun _ _ _ _ _ => (de_op op_mul od_mul (de_ix ix_seq opd_ix (de_var 2 (pv 2)) (de_var 3 (pv 3)) (fun _ _ => rfl)) (de_ix ix_seq opd_ix (de_var 1 (pv 1)) (de_var 3 (pv 3)) (fun _ _ => rfl)))) (by decide))) da_nil))) (by decide)))))
abbrev s_law_choices : Stmt := PySem.Challenge.pw_noughtmeet_k80_choices_of_tables.main.body.getD 18 (.Pass ⟨0, 0, 0, 0⟩)
def m_law_choices : MS :=
  (sSeq (sSet 2 (mL (mCB gLst (mCons (mL (mCB gLst mNil)) mNil))))
  (sSeq (sSet 3 (mCB gLen (mCons (mBin gIx (mVar 0) (mC (.int 0))) mNil)))
  (sSeq (sFor (gNm 4) (mRng1 (mCons (mVar 3) mNil)) (sSeq (sSetO 5 (mCB gLst mNil))
  (sSeq (sFor (gNm 6) (mItems (mVar 2)) (sSeq (sSetO 7 (mLc (gNm 9) (mRng1 (mCons (mCB gLen (mCons (mVar 0) mNil)) mNil)) mYes (mBin gSub (mBin gIx (mVar 1) (mVar 9)) (mCB gSum (mCons (mL (mLc (gNm 11) (mRng1 (mCons (mVar 4) mNil)) mYes (mBin gMul (mBin gIx (mBin gIx (mVar 0) (mVar 9)) (mVar 11)) (mBin gIx (mVar 6) (mVar 11))) [11])) mNil))) [9]))
  (sSeq (sFrz 7 (sSet 8 (mCB gMinL (mCons (mL (mLc (gNm 9) (mRng1 (mCons (mCB gLen (mCons (mVar 0) mNil)) mNil)) (mB (mBin gGt (mBin gIx (mBin gIx (mVar 0) (mVar 9)) (mVar 4)) (mC (.int 0)))) (mBin gDiv (mBin gIx (mVar 7) (mVar 9)) (mBin gIx (mBin gIx (mVar 0) (mVar 9)) (mVar 4))) [9])) mNil))))
  (sIf (mB (mBin gLt (mVar 4) (mBin gSub (mVar 3) (mC (.int 1))))) (sFrz 5 (sSetO 5 (mBin gCat (mVar 5) (mL (mLc (gNm 10) (mRng1 (mCons (mBin gAdd (mVar 8) (mC (.int 1))) mNil)) mYes (mL (mBin gCat (mVar 6) (mL (mCB gLst (mCons (mVar 10) mNil))))) [10]))))) (sFrz 7 (sIf (mAnd (mB (mBin gGe (mVar 8) (mC (.int 0)))) (mB (mBin gEq (mL (mLc (gNm 9) (mRng1 (mCons (mCB gLen (mCons (mVar 0) mNil)) mNil)) (mB (mBin gNe (mBin gIx (mVar 7) (mVar 9)) (mBin gMul (mBin gIx (mBin gIx (mVar 0) (mVar 9)) (mVar 4)) (mVar 8)))) (mVar 9) [9])) (mL (mCB gLst mNil))))) (sAppend 5 (mL (mBin gCat (mVar 6) (mL (mCB gLst (mCons (mVar 8) mNil)))))) sNx))))))
  (sFrz 5 (sSet 2 (mVar 5))))))
  (sRet (mVar 2)))))
theorem sc_law_choices : FnScope ["table", "due", "found", "width", "j", "longer", "vector", "left", "room", "k", "x", "i"] ["table", "due"] (defScope s_law_choices) := ⟨rfl, rfl, rfl, by decide +kernel, rfl, by decide +kernel, by decide +kernel⟩
theorem ok_law_choices {a : Ad} {P : Program} {w : World} {K : PySem.W.Frag} {mg : Str → Option Value} {base : Heap} (T : Tx a P w K mg base) {f : Addr} {fd : FuncData} (F : Fun K "_law_choices" "_law_choices" s_law_choices f fd) :
    FnOk P w K mg base (L2.CX P w) (1) f fd ["table", "due"] (spF K mg 2 (frun 12 (m_law_choices))) := by
  have nd := (sc_law_choices).nd
  exact fn_ok (k := 0) F sc_law_choices (fun cdv A outer s H E hr =>
    (db_cons (ds_set (i := 2) (de_do (do_lst (da_cons (de_do (do_lst da_nil)) da_nil))) (fun t ht => ps_set (i := 2) nd rfl (by first | exact Or.inl rfl | exact Or.inr rfl) ht))
    (db_cons (ds_set (i := 3) (de_bi call_len cd_len rfl T.b_len PyProof.Rows.Boot.«len» (da_cons (de_ix ix_seq opd_ix (de_var 0 (pv 0)) de_int (fun _ _ => rfl)) da_nil)) (fun t ht => ps_set (i := 3) nd rfl (by first | exact Or.inl rfl | exact Or.inr rfl) ht))
    (db_cons (ds_for (ix := [4]) (di_r1 rfl T.b_range (da_cons (de_var 3 (pv 3)) da_nil)) (dg_name (pg_name (i := 4) nd rfl (by first | exact Or.inl rfl | exact Or.inr rfl))) (db_cons (ds_setO (i := 5) (do_lst da_nil) (fun t ht => ps_set (i := 5) nd rfl (by first | exact Or.inl rfl | exact Or.inr rfl) ht))
    (db_cons (ds_for (ix := [6]) (di_list (de_var 2 (pv 2))) (dg_name (pg_name (i := 6) nd rfl (by first | exact Or.inl rfl | exact Or.inr rfl))) (db_cons (ds_setO (i := 7) (do_lcx (own := [("k", 9)]) (ix := [9]) rfl nd (blkOk_by (own := [("k", 9)]) (by kernel_rfl)) (di_r1 rfl T.b_range (da_cons (de_bi call_len cd_len rfl T.b_len PyProof.Rows.Boot.«len» (da_cons (de_var 0 (pv 0)) da_nil)) da_nil)) (fun _ _ _ _ _ => (dg_name (pg_name (i := 9) nd rfl (by first | exact Or.inl rfl | exact Or.inr rfl)))) (fun _ _ _ _ _ => dts_nil) (fun _ _ _ _ _ => (de_op op_sub od_sub (de_ix ix_seq opd_ix (de_var 1 (pv 1)) (de_var 9 (pv 9)) (fun _ _ => rfl)) (de_bi (cr_sum rfl) cd_sum rfl T.b_sum PyProof.Rows.Boot.«sum» (da_cons (de_do (do_lcx (own := [("i", 11)]) (ix := [11]) rfl nd (blkOk_by (own := [("i", 11)]) (by kernel_rfl)) (di_r1 rfl T.b_range (da_cons (de_var 4 (pv 4)) da_nil)) (fun _ _ _ _ _ => (dg_name (pg_name (i := 11) nd rfl (by first | exact Or.inl rfl | exact Or.inr rfl)))) (fun _ _ _ _ _ => dts_nil) (fun _ _ _ _ _ => (de_op op_mul od_mul (de_ix ix_seq opd_ix (de_ix ix_seq opd_ix (de_var 0 (pv 0)) (de_var 9 (pv 9)) (fun _ _ => rfl)) (de_var 11 (pv 11)) (fun _ _ => rfl)) (de_ix ix_seq opd_ix (de_var 6 (pv 6)) (de_var 11 (pv 11)) (fun _ _ => rfl)))) (by decide))) da_nil)))) (by decide)) (fun t ht => ps_set (i := 7) nd rfl (by first | exact Or.inl rfl | exact Or.inr rfl) ht))
    (db_cons (ds_frz' 7 (ds_set (i := 8) (de_bi (cr_min rfl) cd_minL rfl T.b_min PyProof.Rows.Boot.«min» (da_cons (de_do (do_lcx (own := [("k", 9)]) (ix := [9]) rfl nd (blkOk_by (own := [("k", 9)]) (by kernel_rfl)) (di_r1 rfl T.b_range (da_cons (de_bi call_len cd_len rfl T.b_len PyProof.Rows.Boot.«len» (da_cons (de_var 0 (pv 0)) da_nil)) da_nil)) (fun _ _ _ _ _ => (dg_name (pg_name (i := 9) nd rfl (by first | exact Or.inl rfl | exact Or.inr rfl)))) (fun _ _ _ _ _ => (dts_one (dt_cmp op_gt od_gt (de_ix ix_seq opd_ix (de_ix ix_seq opd_ix (de_var 0 (pv 0)) (de_var 9 (pv 9)) (fun _ _ => rfl)) (de_var 4 (pv 4)) (fun _ _ => rfl)) de_int (nomark _)))) (fun _ _ _ _ _ => (de_op op_fdiv od_div (de_ix ix_seq opd_ix (de_var 7 (pv 7)) (de_var 9 (pv 9)) (fun _ _ => rfl)) (de_ix ix_seq opd_ix (de_ix ix_seq opd_ix (de_var 0 (pv 0)) (de_var 9 (pv 9)) (fun _ _ => rfl)) (de_var 4 (pv 4)) (fun _ _ => rfl)))) (by decide))) da_nil)) (fun t ht => ps_set (i := 8) nd rfl (by first | exact Or.inl rfl | exact Or.inr rfl) ht)))
    (db_one (ds_if (dt_cmp op_lt od_lt (de_var 4 (pv 4)) (de_op op_sub od_sub (de_var 3 (pv 3)) de_int) (nomark _)) (db_one (ds_frz' 5 (ds_setO (i := 5) (do_op op_cat opl_cat (de_var 5 (pv 5)) (de_do (do_lcx (own := [("x", 10)]) (ix := [10]) rfl nd (blkOk_by (own := [("x", 10)]) (by kernel_rfl)) (di_r1 rfl T.b_range (da_cons (de_op op_add od_add (de_var 8 (pv 8)) de_int) da_nil)) (fun _ _ _ _ _ => (dg_name (pg_name (i := 10) nd rfl (by first | exact Or.inl rfl | exact Or.inr rfl)))) (fun _ _ _ _ _ => dts_nil) (fun _ _ _ _ _ => (de_do (do_op op_cat opl_cat (de_var 6 (pv 6)) (de_do (do_lst (da_cons (de_var 10 (pv 10)) da_nil)))))) (by decide)))) (fun t ht => ps_set (i := 5) nd rfl (by first | exact Or.inl rfl | exact Or.inr rfl) ht)))) (db_one (ds_frz' 7 (ds_if (DW.dt (dw_and (dt_cmp op_ge od_ge (de_var 8 (pv 8)) de_int (nomark _)) (dw_and1 (dt_cmp (op_eqD hr.units) opd_eq (de_do (do_lcx (own := [("k", 9)]) (ix := [9]) rfl nd (blkOk_by (own := [("k", 9)]) (by kernel_rfl)) (di_r1 rfl T.b_range (da_cons (de_bi call_len cd_len rfl T.b_len PyProof.Rows.Boot.«len» (da_cons (de_var 0 (pv 0)) da_nil)) da_nil)) (fun _ _ _ _ _ => (dg_name (pg_name (i := 9) nd rfl (by first | exact Or.inl rfl | exact Or.inr rfl)))) (fun _ _ _ _ _ => (dts_one (dt_cmp (op_neD hr.units) opd_ne (de_ix ix_seq opd_ix (de_var 7 (pv 7)) (de_var 9 (pv 9)) (fun _ _ => rfl)) (de_op op_mul od_mul (de_ix ix_seq opd_ix (de_ix ix_seq opd_ix (de_var 0 (pv 0)) (de_var 9 (pv 9)) (fun _ _ => rfl)) (de_var 4 (pv 4)) (fun _ _ => rfl)) (de_var 8 (pv 8))) (nomark _)))) (fun _ _ _ _ _ => (de_var 9 (pv 9))) (by decide))) (de_do (do_lst da_nil)) (nomark _))))) (db_one (ds_append (i := 5) (pv 5) (de_do (do_op op_cat opl_cat (de_var 6 (pv 6)) (de_do (do_lst (da_cons (de_var 8 (pv 8)) da_nil))))))) db_nil))))))) (fun wi u t h1 h2 h3 => ps_for (passes_of rfl) rfl h1 h2 h3))
    (db_one (ds_frz' 5 (ds_set (i := 2) (de_var 5 (pv 5)) (fun t ht => ps_set (i := 2) nd rfl (by first | exact Or.inl rfl | exact Or.inr rfl) ht)))))) (fun wi u t h1 h2 h3 => ps_for (passes_of rfl) rfl h1 h2 h3))
    (db_one (ds_ret (de_var 2 (pv 2))))))))
abbrev s_law_is_whole : Stmt := PySem.Challenge.pw_noughtmeet_k80_choices_of_tables.main.body.getD 19 (.Pass ⟨0, 0, 0, 0⟩)
def m_law_is_whole : MS :=
  (sSeq (sIf (mOr (mNot (mB (mIsi isList (mVar 0)))) (mB (mBin gNe (mCB gLen (mCons (mVar 0) mNil)) (mCB gLen (mCons (mVar 1) mNil))))) (sRet (mC (.bl false))) sNx)
  (sRet (mBin gEq (mL (mLc (gNm 2) (mRng1 (mCons (mCB gLen (mCons (mVar 1) mNil)) mNil)) (mOr (mNot (mB (mIsi isInt (mBin gIx (mVar 0) (mVar 2))))) (mOr (mB (mIsi isBool (mBin gIx (mVar 0) (mVar 2)))) (mB (mBin gNe (mBin gIx (mVar 0) (mVar 2)) (mBin gIx (mVar 1) (mVar 2)))))) (mVar 2) [2])) (mL (mCB gLst mNil)))))
theorem sc_law_is_whole : FnScope ["told", "due", "k"] ["told", "due"] (defScope s_law_is_whole) := ⟨rfl, rfl, rfl, by decide +kernel, rfl, by decide +kernel, by decide +kernel⟩
theorem ok_law_is_whole {a : Ad} {P : Program} {w : World} {K : PySem.W.Frag} {mg : Str → Option Value} {base : Heap} (T : Tx a P w K mg base) {f : Addr} {fd : FuncData} (F : Fun K "_law_is_whole" "_law_is_whole" s_law_is_whole f fd) :
    FnOk P w K mg base (L2.CX P w) (1) f fd ["told", "due"] (spF K mg 2 (frun 3 (m_law_is_whole))) := by
  have nd := (sc_law_is_whole).nd
  exact fn_ok (k := 0) F sc_law_is_whole (fun cdv A outer s H E hr =>
    (db_cons (ds_if (DW.dt (dw_or (dt_not (dt_val (de_is kit_list rfl T.b_isinstance rfl T.b_list PyProof.Rows.Boot.«list» (de_var 0 (pv 0))))) (dw_or1 (dt_cmp (op_neD hr.units) opd_ne (de_bi call_len cd_len rfl T.b_len PyProof.Rows.Boot.«len» (da_cons (de_var 0 (pv 0)) da_nil)) (de_bi call_len cd_len rfl T.b_len PyProof.Rows.Boot.«len» (da_cons (de_var 1 (pv 1)) da_nil)) (nomark _))))) (db_one (ds_ret de_bl)) db_nil)
    (db_one (ds_ret (de_cmp (op_eqD hr.units) opd_eq (de_do (do_lcx (own := [("k", 2)]) (ix := [2]) rfl nd (blkOk_by (own := [("k", 2)]) (by kernel_rfl)) (di_r1 rfl T.b_range (da_cons (de_bi call_len cd_len rfl T.b_len PyProof.Rows.Boot.«len» (da_cons (de_var 1 (pv 1)) da_nil)) da_nil)) (fun _ _ _ _ _ => (dg_name (pg_name (i := 2) nd rfl (by first | exact Or.inl rfl | exact Or.inr rfl)))) (fun _ _ _ _ _ => (dts_one (DW.dt (dw_or (dt_not (dt_val (de_is kit_int rfl T.b_isinstance rfl T.b_int PyProof.Rows.Boot.«int» (de_ix ix_seq opd_ix (de_var 0 (pv 0)) (de_var 2 (pv 2)) (fun _ _ => rfl))))) (dw_or (dt_val (de_is kit_bool rfl T.b_isinstance rfl T.b_bool PyProof.Rows.Boot.«bool» (de_ix ix_seq opd_ix (de_var 0 (pv 0)) (de_var 2 (pv 2)) (fun _ _ => rfl)))) (dw_or1 (dt_cmp (op_neD hr.units) opd_ne (de_ix ix_seq opd_ix (de_var 0 (pv 0)) (de_var 2 (pv 2)) (fun _ _ => rfl)) (de_ix ix_seq opd_ix (de_var 1 (pv 1)) (de_var 2 (pv 2)) (fun _ _ => rfl)) (nomark _)))))))) (fun _ _ _ _ _ => (de_var 2 (pv 2))) (by decide))) (de_do (do_lst da_nil)) (nomark _))))))
abbrev s_law_bad_table : Stmt := PySem.Challenge.pw_noughtmeet_k80_choices_of_tables.main.body.getD 20 (.Pass ⟨0, 0, 0, 0⟩)
def m_law_bad_table (f_law_cell : List D → FR) : MS :=
  (sSeq (sSet 1 (mCall 2 f_law_cell (mCons (mVar 0) (mCons (mC (.int 40)) mNil))))
  (sSeq (sSet 2 (mL (mCB gLst (mCons (mL (mCB gLst mNil)) (mCons (mL (mCB gLst (mCons (mL (mCB gLst mNil)) mNil))) (mCons (mL (mCB gLst (mCons (mL (mCB gLst (mCons (mC (.int 1)) mNil))) (mCons (mL (mCB gLst mNil)) mNil)))) (mCons (mL (mCB gLst (mCons (mL (mCB gLst (mCons (mC (.int 1)) (mCons (mC (.int 2)) mNil)))) (mCons (mL (mCB gLst (mCons (mC (.int 1)) mNil))) mNil)))) (mCons (mL (mCB gLst (mCons (mL (mBin gRep (mL (mCB gLst (mCons (mC (.int 1)) mNil))) (mC (.int 9)))) mNil))) (mCons (mL (mCB gLst (mCons (mL (mBin gRep (mL (mCB gLst (mCons (mC (.int 1)) mNil))) (mC (.int 9)))) (mCons (mL (mCB gLst (mCons (mC (.int 1)) mNil))) mNil)))) (mCons (mL (mCB gLst (mCons (mL (mCB gLst (mCons (mC (.int 1)) mNil))) (mCons (mL (mCB gLst (mCons (mC (.int 1)) (mCons (mC (.int 2)) mNil)))) (mCons (mL (mCB gLst (mCons (mC (.int 3)) mNil))) mNil))))) mNil))))))))))
  (sSeq (sSet 2 (mL (mBin gCat (mVar 2) (mL (mCB gLst (mCons (mL (mCB gLst (mCons (mL (mCB gLst (mCons (mC (.int 1)) (mCons (mUn gNeg (mC (.int 1))) mNil)))) mNil))) (mCons (mL (mCB gLst (mCons (mL (mCB gLst (mCons (mC (.int 0)) (mCons (mC (.int 1001)) mNil)))) mNil))) (mCons (mL (mCB gLst (mCons (mL (mCB gLst (mCons (mC (.int 1)) (mCons (mC (.int 2)) mNil)))) (mCons (mL (mCB gLst (mCons (mC (.int 3)) (mCons (mUn gNeg (mC (.int 4))) mNil)))) mNil)))) (mCons (mL (mCB gLst (mCons (mL (mBin gCat (mL (mCB gLst (mCons (mC (.int 1001)) mNil))) (mL (mBin gRep (mL (mCB gLst (mCons (mC (.int 0)) mNil))) (mC (.int 7)))))) mNil))) (mCons (mL (mCB gLst (mCons (mL (mCB gLst (mCons (mUn gNeg (mC (.int 1))) (mCons (mC (.int 0)) mNil)))) mNil))) mNil))))))))))
  (sSeq (sSet 2 (mL (mBin gCat (mVar 2) (mL (mCB gLst (mCons (mL (mCB gLst (mCons (mL (mCB gLst (mCons (mC (.int 0)) mNil))) mNil))) (mCons (mL (mCB gLst (mCons (mL (mCB gLst (mCons (mC (.int 1)) (mCons (mC (.int 0)) mNil)))) (mCons (mL (mCB gLst (mCons (mC (.int 2)) (mCons (mC (.int 0)) mNil)))) mNil)))) (mCons (mL (mCB gLst (mCons (mL (mCB gLst (mCons (mC (.int 0)) (mCons (mC (.int 0)) (mCons (mC (.int 0)) mNil))))) mNil))) (mCons (mL (mCB gLst (mCons (mL (mCB gLst (mCons (mC (.int 1)) (mCons (mC (.int 0)) (mCons (mC (.int 3)) mNil))))) (mCons (mL (mCB gLst (mCons (mC (.int 0)) (mCons (mC (.int 0)) (mCons (mC (.int 0)) mNil))))) mNil)))) (mCons (mL (mCB gLst (mCons (mL (mCB gLst (mCons (mC (.int 1)) (mCons (mC (.int 1)) mNil)))) (mCons (mL (mCB gLst (mCons (mC (.int 2)) mNil))) mNil)))) (mCons (mL (mCB gLst (mCons (mL (mCB gLst (mCons (mC (.int 5)) (mCons (mC (.int 0)) (mCons (mC (.int 1000)) mNil))))) mNil))) mNil)))))))))))
  (sSeq (sSet 2 (mL (mBin gCat (mVar 2) (mL (mCB gLst (mCons (mL (mCB gLst (mCons (mL (mCB gLst (mCons (mC (.int 1000)) (mCons (mC (.int 1)) (mCons (mC (.int 1)) (mCons (mC (.int 1)) (mCons (mC (.int 1)) (mCons (mC (.int 1)) (mCons (mC (.int 1)) (mCons (mC (.int 1)) mNil)))))))))) mNil))) (mCons (mL (mCB gLst (mCons (mL (mCB gLst (mCons (mC (.int 1)) mNil))) mNil))) (mCons (mL (mCB gLst (mCons (mL (mCB gLst (mCons (mC (.int 0)) (mCons (mC (.int 1)) mNil)))) (mCons (mL (mCB gLst (mCons (mC (.int 1)) (mCons (mC (.int 0)) mNil)))) mNil)))) (mCons (mL (mCB gLst (mCons (mL (mCB gLst (mCons (mC (.int 1000)) mNil))) mNil))) (mCons (mL (mCB gLst (mCons (mL (mCB gLst (mCons (mC (.int 0)) (mCons (mC (.int 1000)) mNil)))) (mCons (mL (mCB gLst (mCons (mC (.int 1000)) (mCons (mC (.int 0)) mNil)))) mNil)))) mNil))))))))))
  (sRetO (mLc (gNm 3) (mItems (mBin gIx (mVar 2) (mBin gMod (mCB gInt (mCons (mVar 1) mNil)) (mCB gLen (mCons (mVar 2) mNil))))) mYes (mL (mCB gList (mCons (mVar 3) mNil))) [3])))))))
theorem sc_law_bad_table : FnScope ["script", "cell", "rows", "row"] ["script"] (defScope s_law_bad_table) := ⟨rfl, rfl, rfl, by decide +kernel, rfl, by decide +kernel, by decide +kernel⟩
theorem ok_law_bad_table {a : Ad} {P : Program} {w : World} {K : PySem.W.Frag} {mg : Str → Option Value} {base : Heap} (T : Tx a P w K mg base) {f_law_cell : List D → FR} (c_law_cell : CalN P w K mg base 1 "_law_cell" 2 f_law_cell) {f : Addr} {fd : FuncData} (F : Fun K "_law_bad_table" "_law_bad_table" s_law_bad_table f fd) :
    FnOk P w K mg base (L2.CX P w) (2) f fd ["script"] (spF K mg 1 (frun 4 (m_law_bad_table f_law_cell))) := by
  have nd := (sc_law_bad_table).nd
  exact fn_ok (k := 1) F sc_law_bad_table (fun cdv A outer s H E hr =>
    (db_cons (ds_set (i := 1) (de_cl c_law_cell hr (by decide) rfl (takes_of rfl rfl rfl rfl) (da_cons (de_var 0 (pv 0)) (da_cons de_int da_nil))) (fun t ht => ps_set (i := 1) nd rfl (by first | exact Or.inl rfl | exact Or.inr rfl) ht))
    (db_cons (ds_set (i := 2) (de_do (do_lst (da_cons (de_do (do_lst da_nil)) (da_cons (de_do (do_lst (da_cons (de_do (do_lst da_nil)) da_nil))) (da_cons (de_do (do_lst (da_cons (de_do (do_lst (da_cons de_int da_nil))) (da_cons (de_do (do_lst da_nil)) da_nil)))) (da_cons (de_do (do_lst (da_cons (de_do (do_lst (da_cons de_int (da_cons de_int da_nil)))) (da_cons (de_do (do_lst (da_cons de_int da_nil))) da_nil)))) (da_cons (de_do (do_lst (da_cons (de_do (do_op op_rep opl_rep (de_do (do_lst (da_cons de_int da_nil))) de_int)) da_nil))) (da_cons (de_do (do_lst (da_cons (de_do (do_op op_rep opl_rep (de_do (do_lst (da_cons de_int da_nil))) de_int)) (da_cons (de_do (do_lst (da_cons de_int da_nil))) da_nil)))) (da_cons (de_do (do_lst (da_cons (de_do (do_lst (da_cons de_int da_nil))) (da_cons (de_do (do_lst (da_cons de_int (da_cons de_int da_nil)))) (da_cons (de_do (do_lst (da_cons de_int da_nil))) da_nil))))) da_nil))))))))) (fun t ht => ps_set (i := 2) nd rfl (by first | exact Or.inl rfl | exact Or.inr rfl) ht))
    (db_cons (ds_set (i := 2) (de_do (do_op op_cat opl_cat (de_var 2 (pv 2)) (de_do (do_lst (da_cons (de_do (do_lst (da_cons (de_do (do_lst (da_cons de_int (da_cons (de_un un_neg und_neg de_int) da_nil)))) da_nil))) (da_cons (de_do (do_lst (da_cons (de_do (do_lst (da_cons de_int (da_cons de_int da_nil)))) da_nil))) (da_cons (de_do (do_lst (da_cons (de_do (do_lst (da_cons de_int (da_cons de_int da_nil)))) (da_cons (de_do (do_lst (da_cons de_int (da_cons (de_un un_neg und_neg de_int) da_nil)))) da_nil)))) (da_cons (de_do (do_lst (da_cons (de_do (do_op op_cat opl_cat (de_do (do_lst (da_cons de_int da_nil))) (de_do (do_op op_rep opl_rep (de_do (do_lst (da_cons de_int da_nil))) de_int)))) da_nil))) (da_cons (de_do (do_lst (da_cons (de_do (do_lst (da_cons (de_un un_neg und_neg de_int) (da_cons de_int da_nil)))) da_nil))) da_nil))))))))) (fun t ht => ps_set (i := 2) nd rfl (by first | exact Or.inl rfl | exact Or.inr rfl) ht))
    (db_cons (ds_set (i := 2) (de_do (do_op op_cat opl_cat (de_var 2 (pv 2)) (de_do (do_lst (da_cons (de_do (do_lst (da_cons (de_do (do_lst (da_cons de_int da_nil))) da_nil))) (da_cons (de_do (do_lst (da_cons (de_do (do_lst (da_cons de_int (da_cons de_int da_nil)))) (da_cons (de_do (do_lst (da_cons de_int (da_cons de_int da_nil)))) da_nil)))) (da_cons (de_do (do_lst (da_cons (de_do (do_lst (da_cons de_int (da_cons de_int (da_cons de_int da_nil))))) da_nil))) (da_cons (de_do (do_lst (da_cons (de_do (do_lst (da_cons de_int (da_cons de_int (da_cons de_int da_nil))))) (da_cons (de_do (do_lst (da_cons de_int (da_cons de_int (da_cons de_int da_nil))))) da_nil)))) (da_cons (de_do (do_lst (da_cons (de_do (do_lst (da_cons de_int (da_cons de_int da_nil)))) (da_cons (de_do (do_lst (da_cons de_int da_nil))) da_nil)))) (da_cons (de_do (do_lst (da_cons (de_do (do_lst (da_cons de_int (da_cons de_int (da_cons de_int da_nil))))) da_nil))) da_nil)))))))))) (fun t ht => ps_set (i := 2) nd rfl (by first | exact Or.inl rfl | exact Or.inr rfl) ht))
    (db_cons (ds_set (i := 2) (de_do (do_op op_cat opl_cat (de_var 2 (pv 2)) (de_do (do_lst (da_cons (de_do (do_lst (da_cons (de_do (do_lst (da_cons de_int (da_cons de_int (da_cons de_int (da_cons de_int (da_cons de_int (da_cons de_int (da_cons de_int (da_cons de_int da_nil)))))))))) da_nil))) (da_cons (de_do (do_lst (da_cons (de_do (do_lst (da_cons de_int da_nil))) da_nil))) (da_cons (de_do (do_lst (da_cons (de_do (do_lst (da_cons de_int (da_cons de_int da_nil)))) (da_cons (de_do (do_lst (da_cons de_int (da_cons de_int da_nil)))) da_nil)))) (da_cons (de_do (do_lst (da_cons (de_do (do_lst (da_cons de_int da_nil))) da_nil))) (da_cons (de_do (do_lst (da_cons (de_do (do_lst (da_cons de_int (da_cons de_int da_nil)))) (da_cons (de_do (do_lst (da_cons de_int (da_cons de_int da_nil)))) da_nil)))) da_nil))))))))) (fun t ht => ps_set (i := 2) nd rfl (by first | exact Or.inl rfl | exact Or.inr rfl) ht))
    (db_one (ds_retO (do_lcx (own := [("row", 3)]) (ix := [3]) rfl nd (blkOk_by (own := [("row", 3)]) (by kernel_rfl)) (di_list (de_ix ix_seq opd_ix (de_var 2 (pv 2)) (de_op op_mod od_mod (de_ty call_int1 cd_int rfl T.b_int PyProof.Rows.Boot.«int» (da_cons (de_var 1 (pv 1)) da_nil)) (de_bi call_len cd_len rfl T.b_len PyProof.Rows.Boot.«len» (da_cons (de_var 2 (pv 2)) da_nil))) (fun _ _ => rfl))) (fun _ _ _ _ _ => (dg_name (pg_name (i := 3) nd rfl (by first | exact Or.inl rfl | exact Or.inr rfl)))) (fun _ _ _ _ _ => dts_nil) (fun _ _ _ _ _ => (de_do (do_ty call_list_of cl_list rfl T.b_list PyProof.Rows.Boot.«list» (da_cons (de_var 3 (pv 3)) da_nil)))) (by decide))))))))))
abbrev s_law_bad_part : Stmt := PySem.Challenge.pw_noughtmeet_k80_choices_of_tables.main.body.getD 21 (.Pass ⟨0, 0, 0, 0⟩)
def m_law_bad_part : MS :=
  (sSeq (sIf (mOr (mB (mBin gEq (mVar 0) (mL (mCB gLst mNil)))) (mOr (mNot (mB (mChain gLe gLe (mC (.int 1)) (mCB gLen (mCons (mBin gIx (mVar 0) (mC (.int 0))) mNil)) (mC (.int 8))))) (mB (mBin gNe (mL (mLc (gNm 1) (mItems (mVar 0)) (mB (mBin gNe (mCB gLen (mCons (mVar 1) mNil)) (mCB gLen (mCons (mBin gIx (mVar 0) (mC (.int 0))) mNil)))) (mVar 1) [1])) (mL (mCB gLst mNil)))))) (sRet (mC (.str "rows"))) sNx)
  (sSeq (sFor (gNm 1) (mItems (mVar 0)) (sIf (mB (mBin gNe (mL (mLc (gNm 2) (mItems (mVar 1)) (mNot (mB (mChain gLe gLe (mC (.int 0)) (mVar 2) (mC (.int 1000))))) (mVar 2) [2])) (mL (mCB gLst mNil)))) (sRet (mC (.str "entry"))) sNx))
  (sSeq (sIf (mB (mBin gNe (mL (mLc (gNm 3) (mRng1 (mCons (mCB gLen (mCons (mBin gIx (mVar 0) (mC (.int 0))) mNil)) mNil)) (mB (mBin gEq (mL (mLc (gNm 1) (mItems (mVar 0)) (mB (mBin gGt (mBin gIx (mVar 1) (mVar 3)) (mC (.int 0)))) (mVar 1) [1])) (mL (mCB gLst mNil)))) (mVar 3) [3])) (mL (mCB gLst mNil)))) (sRet (mC (.str "column"))) sNx)
  (sRet (mC .non)))))
theorem sc_law_bad_part : FnScope ["table", "row", "x", "j"] ["table"] (defScope s_law_bad_part) := ⟨rfl, rfl, rfl, by decide +kernel, rfl, by decide +kernel, by decide +kernel⟩
theorem ok_law_bad_part {a : Ad} {P : Program} {w : World} {K : PySem.W.Frag} {mg : Str → Option Value} {base : Heap} (T : Tx a P w K mg base) {f : Addr} {fd : FuncData} (F : Fun K "_law_bad_part" "_law_bad_part" s_law_bad_part f fd) :
    FnOk P w K mg base (L2.CX P w) (1) f fd ["table"] (spF K mg 1 (frun 4 (m_law_bad_part))) := by
  have nd := (sc_law_bad_part).nd
  exact fn_ok (k := 0) F sc_law_bad_part (fun cdv A outer s H E hr =>
    (db_cons (ds_if (DW.dt (dw_or (dt_cmp (op_eqD hr.units) opd_eq (de_var 0 (pv 0)) (de_do (do_lst da_nil)) (nomark _)) (dw_or (dt_not (dt_chain op_le op_le od_le od_le de_int (de_bi call_len cd_len rfl T.b_len PyProof.Rows.Boot.«len» (da_cons (de_ix ix_seq opd_ix (de_var 0 (pv 0)) de_int (fun _ _ => rfl)) da_nil)) de_int)) (dw_or1 (dt_cmp (op_neD hr.units) opd_ne (de_do (do_lcx (own := [("row", 1)]) (ix := [1]) rfl nd (blkOk_by (own := [("row", 1)]) (by kernel_rfl)) (di_list (de_var 0 (pv 0))) (fun _ _ _ _ _ => (dg_name (pg_name (i := 1) nd rfl (by first | exact Or.inl rfl | exact Or.inr rfl)))) (fun _ _ _ _ _ => (dts_one (dt_cmp (op_neD hr.units) opd_ne (de_bi call_len cd_len rfl T.b_len PyProof.Rows.Boot.«len» (da_cons (de_var 1 (pv 1)) da_nil)) (de_bi call_len cd_len rfl T.b_len PyProof.Rows.Boot.«len» (da_cons (de_ix ix_seq opd_ix (de_var 0 (pv 0)) de_int (fun _ _ => rfl)) da_nil)) (nomark _)))) (fun _ _ _ _ _ => (de_var 1 (pv 1))) (by decide))) (de_do (do_lst da_nil)) (nomark _)))))) (db_one (ds_ret de_str)) db_nil)
    (db_cons (ds_for (ix := [1]) (di_list (de_var 0 (pv 0))) (dg_name (pg_name (i := 1) nd rfl (by first | exact Or.inl rfl | exact Or.inr rfl))) (db_one (ds_if (dt_cmp (op_neD hr.units) opd_ne (de_do (do_lcx (own := [("x", 2)]) (ix := [2]) rfl nd (blkOk_by (own := [("x", 2)]) (by kernel_rfl)) (di_list (de_var 1 (pv 1))) (fun _ _ _ _ _ => (dg_name (pg_name (i := 2) nd rfl (by first | exact Or.inl rfl | exact Or.inr rfl)))) (fun _ _ _ _ _ => (dts_one (dt_not (dt_chain op_le op_le od_le od_le de_int (de_var 2 (pv 2)) de_int)))) (fun _ _ _ _ _ => (de_var 2 (pv 2))) (by decide))) (de_do (do_lst da_nil)) (nomark _)) (db_one (ds_ret de_str)) db_nil)) (fun wi u t h1 h2 h3 => ps_for (passes_of rfl) rfl h1 h2 h3))
    (db_cons (ds_if (dt_cmp (op_neD hr.units) opd_ne (de_do (do_lcx (own := [("j", 3)]) (ix := [3]) rfl nd (blkOk_by (own := [("j", 3)]) (by kernel_rfl)) (di_r1 rfl T.b_range (da_cons (de_bi call_len cd_len rfl T.b_len PyProof.Rows.Boot.«len» (da_cons (de_ix ix_seq opd_ix (de_var 0 (pv 0)) de_int (fun _ _ => rfl)) da_nil)) da_nil)) (fun _ _ _ _ _ => (dg_name (pg_name (i := 3) nd rfl (by first | exact Or.inl rfl | exact Or.inr rfl)))) (fun _ _ _ _ _ => (dts_one (dt_cmp (op_eqD hr.units) opd_eq (de_do (do_lcx (own := [("row", 1)]) (ix := [1]) rfl nd (blkOk_by (own := [("row", 1)]) (by kernel_rfl)) (di_list (de_var 0 (pv 0))) (fun _ _ _ _ _ => (dg_name (pg_name (i := 1) nd rfl (by first | exact Or.inl rfl | exact Or.inr rfl)))) (fun _ _ _ _ _ => (dts_one (dt_cmp op_gt od_gt (de_ix ix_seq opd_ix (de_var 1 (pv 1)) (de_var 3 (pv 3)) (fun _ _ => rfl)) de_int (nomark _)))) (fun _ _ _ _ _ => (de_var 1 (pv 1))) (by decide))) (de_do (do_lst da_nil)) (nomark _)))) (fun _ _ _ _ _ => (de_var 3 (pv 3))) (by decide))) (de_do (do_lst da_nil)) (nomark _)) (db_one (ds_ret de_str)) db_nil)
    (db_one (ds_ret de_non))))))
abbrev s_law_part : Stmt := PySem.Challenge.pw_noughtmeet_k80_choices_of_tables.main.body.getD 22 (.Pass ⟨0, 0, 0, 0⟩)
def m_law_part (f_check_table : List D → FR) (f_choices : List D → FR) : MS :=
  (sSeq (sTry 2 [("InvalidTable", true), ("TooMany", true)] (sSeq (sIf (mB (mBin gEq (mVar 0) (mC (.int 0)))) (sRet (mCB gTup (mCons (mC (.str "told")) (mCons (mCall 1 f_check_table (mCons (mVar 1) mNil)) mNil)))) sNx)
  (sSeq (sSet 3 (mCallK 2 1 f_choices (mCons (mVar 1) (mCons (mL (mBin gRep (mL (mCB gLst (mCons (mC (.int 1)) mNil))) (mCB gLen (mCons (mVar 1) mNil)))) mNil)) (mCons (mBin gPow (mC (.int 10)) (mC (.int 6))) mNil)))
  (sRet (mCB gTup (mCons (mC (.str "told")) (mCons (mIf (mB (mIsi isList (mVar 3))) (mC .non) (mC (.str "odd"))) mNil)))))) (hSeq (hIfS (hAndT (hT (hIs [("InvalidTable", true), ("TooMany", false)])) (hAndT (hNotT (hT (hIs [("InvalidTable", false), ("TooMany", true)]))) (hNotT (hT (hIs [("InvalidTable", false), ("TooMany", false)]))))) (hSeq (hRet (hTup2 (fun _ => some (.str "part")) (hFld "InvalidTable" "part"))) hNil) hNil) hNil))
  (sRet (mCB gTup (mCons (mC (.str "odd")) (mCons (mC .non) mNil)))))
theorem sc_law_part : FnScope ["kind", "table", "e", "told"] ["kind", "table"] (defScope s_law_part) := ⟨rfl, rfl, rfl, by decide +kernel, rfl, by decide +kernel, by decide +kernel⟩
theorem ok_law_part {a : Ad} {P : Program} {w : World} {K : PySem.W.Frag} {mg : Str → Option Value} {base : Heap} (T : Tx a P w K mg base) {f_check_table : List D → FR} {f_choices : List D → FR} (c_check_table : CalN P w K mg base 3 "check_table" 1 f_check_table) (c_choices : CalK P w K mg base 4 "choices" 2 ["most"] f_choices) {f : Addr} {fd : FuncData} (F : Fun K "_law_part" "_law_part" s_law_part f fd) :
    FnOk P w K mg base (L2.CX P w) (5) f fd ["kind", "table"] (spF K mg 2 (frun 4 (m_law_part f_check_table f_choices))) := by
  have nd := (sc_law_part).nd
  exact fn_ok (k := 4) F sc_law_part (fun cdv A outer s H E hr =>
    (db_cons (ds_try (i := 2) rfl rfl nd rfl rfl ⟨rfl, by decide, .inl T.x_NoughtError⟩ (takes_of rfl rfl rfl rfl) T.tk_NoughtError (fun W' pn xe tk po => (db_cons (ds_if (dt_cmp (op_eqD hr.units) opd_eq (de_var 0 (pv 0)) de_int (nomark _)) (db_one (ds_ret (de_tup (da_cons de_str (da_cons (de_cl c_check_table hr (by decide) rfl tk (da_cons (de_var 1 (pv 1)) da_nil)) da_nil))))) db_nil)
    (db_cons (ds_set (i := 3) (de_clK c_choices hr (by decide) rfl tk (da_cons (de_var 1 (pv 1)) (da_cons (de_do (do_op op_rep opl_rep (de_do (do_lst (da_cons de_int da_nil))) (de_bi call_len cd_len rfl T.b_len PyProof.Rows.Boot.«len» (da_cons (de_var 1 (pv 1)) da_nil)))) da_nil)) (dk_cons (de_op op_pow od_pow de_int de_int) dk_nil)) (fun t ht => ps_set (i := 3) nd rfl (by first | exact Or.inl rfl | exact Or.inr rfl) ht))
    (db_one (ds_ret (de_tup (da_cons de_str (da_cons (de_if (dt_val (de_is kit_list rfl T.b_isinstance rfl T.b_list PyProof.Rows.Boot.«list» (de_var 3 (pv 3)))) de_non de_str) da_nil)))))))) (hb_cons (hs_if (HW.ht (hw_and (ht_of (he_is (cv := .ref a.CT) (cu := .ref a.CT) rfl T.b_isinstance (fun _ _ => (pv 2)) (fun _ _ => pe_glob rfl T.x_InvalidTable.gC rfl) (fun _ h => h) T.is_InvalidTable)) (hw_and (ht_not (ht_of (he_is (cv := .ref a.CM) (cu := .ref a.CM) rfl T.b_isinstance (fun _ _ => (pv 2)) (fun _ _ => pe_glob rfl T.x_TooMany.gC rfl) (fun _ h => h) T.is_TooMany))) (hw_and1 (ht_not (ht_of (he_is (cv := .ref a.CR) (cu := .ref a.CR) rfl T.b_isinstance (fun _ _ => (pv 2)) (fun _ _ => pe_glob rfl T.x_InvalidRing.gC rfl) (fun _ h => h) T.is_InvalidRing))))))) (hb_cons (hs_ret (he_tup2 he_str (he_fld T.x_InvalidTable.xf T.x_InvalidTable.nf T.x_InvalidTable.gC (fun _ _ => (pv 2))))) hb_nil) hb_nil) hb_nil))
    (db_one (ds_ret (de_tup (da_cons de_str (da_cons de_non da_nil)))))))
abbrev s_law_told : Stmt := PySem.Challenge.pw_noughtmeet_k80_choices_of_tables.main.body.getD 23 (.Pass ⟨0, 0, 0, 0⟩)
def m_law_told (f_choices : List D → FR) : MS :=
  (sTry 3 [("InvalidTable", true), ("TooMany", true)] (sRet (mCB gTup (mCons (mC (.str "told")) (mCons (mCallK 2 1 f_choices (mCons (mVar 0) (mCons (mVar 1) mNil)) (mCons (mVar 2) mNil)) mNil)))) (hSeq (hRet (hTup2 (fun _ => some (.str "many")) (hAnd (hIs [("InvalidTable", false), ("TooMany", true)]) (hAnd (hIs [("InvalidTable", true), ("TooMany", true)]) (hNot (hIs [("InvalidTable", true), ("TooMany", false)])))))) hNil))
theorem sc_law_told : FnScope ["table", "due", "most", "e"] ["table", "due", "most"] (defScope s_law_told) := ⟨rfl, rfl, rfl, by decide +kernel, rfl, by decide +kernel, by decide +kernel⟩
theorem ok_law_told {a : Ad} {P : Program} {w : World} {K : PySem.W.Frag} {mg : Str → Option Value} {base : Heap} (T : Tx a P w K mg base) {f_choices : List D → FR} (c_choices : CalK P w K mg base 4 "choices" 2 ["most"] f_choices) {f : Addr} {fd : FuncData} (F : Fun K "_law_told" "_law_told" s_law_told f fd) :
    FnOk P w K mg base (L2.CX P w) (5) f fd ["table", "due", "most"] (spF K mg 3 (frun 4 (m_law_told f_choices))) := by
  have nd := (sc_law_told).nd
  exact fn_ok (k := 4) F sc_law_told (fun cdv A outer s H E hr =>
    (db_one (ds_try (i := 3) rfl rfl nd rfl rfl ⟨rfl, by decide, .inl T.x_NoughtError⟩ (takes_of rfl rfl rfl rfl) T.tk_NoughtError (fun W' pn xe tk po => (db_one (ds_ret (de_tup (da_cons de_str (da_cons (de_clK c_choices hr (by decide) rfl tk (da_cons (de_var 0 (pv 0)) (da_cons (de_var 1 (pv 1)) da_nil)) (dk_cons (de_var 2 (pv 2)) dk_nil)) da_nil)))))) (hb_cons (hs_ret (he_tup2 he_str (he_and (he_is (cv := .ref a.CM) (cu := .ref a.CM) rfl T.b_isinstance (fun _ _ => (pv 3)) (fun _ _ => pe_glob rfl T.x_TooMany.gC rfl) (fun _ h => h) T.is_TooMany) (he_and (he_is (cv := .ty "ValueError") (cu := .type "ValueError") rfl T.b_isinstance (fun _ _ => (pv 3)) (fun _ _ => pe_bltn rfl T.b_ValueError PyProof.Rows.Boot.«ValueError» rfl) (fun _ h => h) T.is_ValueError) (he_one (he_not (he_is (cv := .ref a.CT) (cu := .ref a.CT) rfl T.b_isinstance (fun _ _ => (pv 3)) (fun _ _ => pe_glob rfl T.x_InvalidTable.gC rfl) (fun _ h => h) T.is_InvalidTable))))))) hb_nil))))
abbrev s_law : Stmt := PySem.Challenge.pw_noughtmeet_k80_choices_of_tables.main.body.getD 24 (.Pass ⟨0, 0, 0, 0⟩)
def m_law (f_law_bad_table : List D → FR) (f_law_bad_part : List D → FR) (f_law_part : List D → FR) (f_law_same : List D → FR) (f_law_table : List D → FR) (f_law_cell : List D → FR) (f_law_digits : List D → FR) (f_law_totals : List D → FR) (f_law_choices : List D → FR) (f_totals : List D → FR) (f_law_is_whole : List D → FR) (f_law_told : List D → FR) : MS :=
  (sSeq (sSet 1 (mCall 1 f_law_bad_table (mCons (mVar 0) mNil)))
  (sSeq (sSet 2 (mCall 1 f_law_bad_part (mCons (mVar 1) mNil)))
  (sSeq (sSetO 3 (mLc (gNm 4) (mItems (mVar 1)) mYes (mL (mCB gList (mCons (mVar 4) mNil))) [4]))
  (sSeq (sSet 5 (mIf (mB (mBin gIsN (mVar 2) (mC .non))) (mCB gTup (mCons (mC (.str "told")) (mCons (mC .non) mNil))) (mCB gTup (mCons (mC (.str "part")) (mCons (mVar 2) mNil)))))
  (sSeq (sFrz 3 (sIf (mOr (mNot (mB (mCall 2 f_law_same (mCons (mCall 2 f_law_part (mCons (mC (.int 0)) (mCons (mVar 3) mNil))) (mCons (mVar 5) mNil))))) (mOr (mNot (mB (mCall 2 f_law_same (mCons (mCall 2 f_law_part (mCons (mC (.int 1)) (mCons (mVar 3) mNil))) (mCons (mVar 5) mNil))))) (mB (mBin gNe (mVar 3) (mVar 1))))) (sRet (mC (.bl false))) sNx))
  (sSeq (sSet 6 (mCall 2 f_law_table (mCons (mVar 0) (mCons (mC (.int 0)) mNil))))
  (sSeq (sSet 7 (mCall 2 f_law_cell (mCons (mVar 0) (mCons (mC (.int 6)) mNil))))
  (sSeq (sIf (mB (mBin gEq (mBin gMod (mCB gInt (mCons (mVar 7) mNil)) (mC (.int 16))) (mC (.int 1)))) (sSet 6 (mL (mCB gLst (mCons (mL (mLc (gNm 8) (mRng1 (mCons (mC (.int 8)) mNil)) mYes (mBin gAdd (mC (.int 1)) (mBin gMod (mCB gInt (mCons (mBin gShr (mBin gDiv (mVar 7) (mC (.int 16))) (mVar 8)) mNil)) (mC (.int 2)))) [8])) mNil)))) sNx)
  (sSeq (sIf (mB (mBin gEq (mBin gMod (mCB gInt (mCons (mVar 7) mNil)) (mC (.int 16))) (mC (.int 2)))) (sSet 6 (mL (mCB gLst (mCons (mL (mCB gLst (mCons (mC (.int 1000)) (mCons (mC (.int 999)) (mCons (mC (.int 1000)) mNil))))) (mCons (mL (mCB gLst (mCons (mC (.int 0)) (mCons (mC (.int 1000)) (mCons (mC (.int 1)) mNil))))) mNil))))) sNx)
  (sSeq (sSet 9 (mCall 4 f_law_digits (mCons (mVar 0) (mCons (mC (.int 7)) (mCons (mCB gLen (mCons (mBin gIx (mVar 6) (mC (.int 0))) mNil)) (mCons (mBin gIx (mL (mCB gLst (mCons (mC (.int 7)) (mCons (mC (.int 5)) (mCons (mC (.int 4)) (mCons (mC (.int 3)) (mCons (mC (.int 2)) (mCons (mC (.int 2)) (mCons (mC (.int 2)) (mCons (mC (.int 2)) mNil)))))))))) (mBin gSub (mCB gLen (mCons (mBin gIx (mVar 6) (mC (.int 0))) mNil)) (mC (.int 1)))) mNil))))))
  (sSeq (sIf (mB (mBin gEq (mCB gLen (mCons (mBin gIx (mVar 6) (mC (.int 0))) mNil)) (mC (.int 8)))) (sSetO 9 (mLc (gNm 8) (mRng1 (mCons (mC (.int 8)) mNil)) mYes (mCB gInt (mCons (mBin gIn (mVar 8) (mL (mCB gLst (mCons (mBin gMod (mCB gInt (mCons (mBin gDiv (mVar 7) (mC (.int 4096))) mNil)) (mC (.int 8))) (mCons (mBin gMod (mCB gInt (mCons (mBin gDiv (mVar 7) (mC (.int 32768))) mNil)) (mC (.int 8))) (mCons (mBin gMod (mCB gInt (mCons (mBin gDiv (mVar 7) (mC (.int 262144))) mNil)) (mC (.int 8))) mNil)))))) mNil)) [8])) sNx)
  (sSeq (sFrz 9 (sSetO 10 (mCallO 2 f_law_totals (mCons (mVar 6) (mCons (mVar 9) mNil)))))
  (sSeq (sIf (mB (mBin gEq (mBin gMod (mCB gInt (mCons (mBin gDiv (mVar 7) (mC (.int 16))) mNil)) (mC (.int 3))) (mC (.int 1)))) (sFrz 10 (sSetO 10 (mLc (gNm 11) (mRng1 (mCons (mCB gLen (mCons (mVar 10) mNil)) mNil)) mYes (mBin gAdd (mBin gIx (mVar 10) (mVar 11)) (mBin gMod (mCB gInt (mCons (mBin gShr (mVar 7) (mBin gAdd (mC (.int 7)) (mVar 11))) mNil)) (mC (.int 3)))) [11]))) sNx)
  (sSeq (sIf (mB (mBin gEq (mBin gMod (mCB gInt (mCons (mBin gDiv (mVar 7) (mC (.int 16))) mNil)) (mC (.int 7))) (mC (.int 2)))) (sPut 10 (mBin gSub (mUn gNeg (mC (.int 1))) (mBin gMod (mCB gInt (mCons (mBin gDiv (mVar 7) (mC (.int 112))) mNil)) (mC (.int 3)))) (mUn gNeg (mC (.int 1)))) sNx)
  (sSeq (sFrz 10 (sSet 12 (mIf (mB (mBin gGe (mCB gMinL (mCons (mVar 10) mNil)) (mC (.int 0)))) (mCall 2 f_law_choices (mCons (mVar 6) (mCons (mVar 10) mNil))) (mL (mCB gLst mNil)))))
  (sSeq (sFrz 9 (sSet 13 (mL (mCB gLst (mCons (mL (mLc (gNm 4) (mItems (mVar 6)) mYes (mL (mCB gList (mCons (mVar 4) mNil))) [4])) (mCons (mL (mCB gList (mCons (mVar 9) mNil))) (mCons (mL (mCB gList (mCons (mVar 10) mNil))) mNil)))))))
  (sSeq (sFrz 9 (sIf (mOr (mNot (mB (mCall 2 f_law_is_whole (mCons (mCall 2 f_totals (mCons (mVar 6) (mCons (mVar 9) mNil))) (mCons (mCall 2 f_law_totals (mCons (mBin gIx (mVar 13) (mC (.int 0))) (mCons (mBin gIx (mVar 13) (mC (.int 1))) mNil))) mNil))))) (mB (mBin gNe (mL (mCB gLst (mCons (mVar 6) (mCons (mVar 9) mNil)))) (mL (mSl (mVar 13) mNoP (mPart (mC (.int 2)))))))) (sRet (mC (.bl false))) sNx))
  (sSeq (sSet 14 (mL (mCB gLst (mCons (mL (mLc (gNm 4) (mItems (mVar 6)) mYes (mL (mCB gList (mCons (mVar 4) mNil))) [4])) (mCons (mL (mCB gList (mCons (mVar 10) mNil))) mNil)))))
  (sSeq (sIf (mOr (mNot (mB (mCall 2 f_law_same (mCons (mCall 3 f_law_told (mCons (mBin gIx (mVar 14) (mC (.int 0))) (mCons (mBin gIx (mVar 14) (mC (.int 1))) (mCons (mCB gLen (mCons (mVar 12) mNil)) mNil)))) (mCons (mCB gTup (mCons (mC (.str "told")) (mCons (mVar 12) mNil))) mNil))))) (mB (mBin gNe (mVar 14) (mL (mCB gLst (mCons (mVar 6) (mCons (mVar 10) mNil))))))) (sRet (mC (.bl false))) sNx)
  (sRet (mOrV (mBin gEq (mVar 12) (mL (mCB gLst mNil))) (mCall 2 f_law_same (mCons (mCall 3 f_law_told (mCons (mBin gIx (mVar 14) (mC (.int 0))) (mCons (mBin gIx (mVar 14) (mC (.int 1))) (mCons (mBin gSub (mCB gLen (mCons (mVar 12) mNil)) (mC (.int 1))) mNil)))) (mCons (mCB gTup (mCons (mC (.str "many")) (mCons (mC (.bl true)) mNil))) mNil))))))))))))))))))))))))
theorem sc_law : FnScope ["script", "bad", "part", "given", "row", "dues", "table", "cell", "j", "vector", "due", "k", "found", "kept", "handed"] ["script"] (defScope s_law) := ⟨rfl, rfl, rfl, by decide +kernel, rfl, by decide +kernel, by decide +kernel⟩
theorem ok_law {a : Ad} {P : Program} {w : World} {K : PySem.W.Frag} {mg : Str → Option Value} {base : Heap} (T : Tx a P w K mg base) {f_law_bad_table : List D → FR} {f_law_bad_part : List D → FR} {f_law_part : List D → FR} {f_law_same : List D → FR} {f_law_table : List D → FR} {f_law_cell : List D → FR} {f_law_digits : List D → FR} {f_law_totals : List D → FR} {f_law_choices : List D → FR} {f_totals : List D → FR} {f_law_is_whole : List D → FR} {f_law_told : List D → FR} (c_law_bad_table : CalN P w K mg base 2 "_law_bad_table" 1 f_law_bad_table) (c_law_bad_part : CalN P w K mg base 1 "_law_bad_part" 1 f_law_bad_part) (c_law_part : CalN P w K mg base 5 "_law_part" 2 f_law_part) (c_law_same : CalN P w K mg base 30 "_law_same" 2 f_law_same) (c_law_table : CalN P w K mg base 8 "_law_table" 2 f_law_table) (c_law_cell : CalN P w K mg base 1 "_law_cell" 2 f_law_cell) (c_law_digits : CalN P w K mg base 2 "_law_digits" 4 f_law_digits) (c_law_totals : CalN P w K mg base 1 "_law_totals" 2 f_law_totals) (c_law_choices : CalN P w K mg base 1 "_law_choices" 2 f_law_choices) (c_totals : CalN P w K mg base 1 "totals" 2 f_totals) (c_law_is_whole : CalN P w K mg base 1 "_law_is_whole" 2 f_law_is_whole) (c_law_told : CalN P w K mg base 5 "_law_told" 3 f_law_told) {f : Addr} {fd : FuncData} (F : Fun K "law" "law" s_law f fd) :
    FnOk P w K mg base (L2.CX P w) (31) f fd ["script"] (spF K mg 1 (frun 15 (m_law f_law_bad_table f_law_bad_part f_law_part f_law_same f_law_table f_law_cell f_law_digits f_law_totals f_law_choices f_totals f_law_is_whole f_law_told))) := by
  have nd := (sc_law).nd
  exact fn_ok (k := 30) F sc_law (fun cdv A outer s H E hr =>
    (db_cons (ds_set (i := 1) (de_cl c_law_bad_table hr (by decide) rfl (takes_of rfl rfl rfl rfl) (da_cons (de_var 0 (pv 0)) da_nil)) (fun t ht => ps_set (i := 1) nd rfl (by first | exact Or.inl rfl | exact Or.inr rfl) ht))
    (db_cons (ds_set (i := 2) (de_cl c_law_bad_part hr (by decide) rfl (takes_of rfl rfl rfl rfl) (da_cons (de_var 1 (pv 1)) da_nil)) (fun t ht => ps_set (i := 2) nd rfl (by first | exact Or.inl rfl | exact Or.inr rfl) ht))
    (db_cons (ds_lcx (i := 3) (own := [("row", 4)]) (ix := [4]) rfl nd rfl rfl rfl rfl (by decide +kernel) (blkOk_by (own := [("row", 4)]) (by kernel_rfl)) (di_list (de_var 1 (pv 1))) (fun _ _ _ _ _ => (dg_name (pg_name (i := 4) nd rfl (by first | exact Or.inl rfl | exact Or.inr rfl)))) (fun _ _ _ _ _ => dts_nil) (fun _ _ _ _ _ => (de_do (do_ty call_list_of cl_list rfl T.b_list PyProof.Rows.Boot.«list» (da_cons (de_var 4 (pv 4)) da_nil)))) (by decide))
    (db_cons (ds_set (i := 5) (de_if (dt_cmp op_isN opd_isN (de_var 2 (pv 2)) de_non (nomark _)) (de_tup (da_cons de_str (da_cons de_non da_nil))) (de_tup (da_cons de_str (da_cons (de_var 2 (pv 2)) da_nil)))) (fun t ht => ps_set (i := 5) nd rfl (by first | exact Or.inl rfl | exact Or.inr rfl) ht))
    (db_cons (ds_frz' 3 (ds_if (DW.dt (dw_or (dt_not (dt_val (de_cl c_law_same hr (by decide) rfl (takes_of rfl rfl rfl rfl) (da_cons (de_cl c_law_part hr (by decide) rfl (takes_of rfl rfl rfl rfl) (da_cons de_int (da_cons (de_var 3 (pv 3)) da_nil))) (da_cons (de_var 5 (pv 5)) da_nil))))) (dw_or (dt_not (dt_val (de_cl c_law_same hr (by decide) rfl (takes_of rfl rfl rfl rfl) (da_cons (de_cl c_law_part hr (by decide) rfl (takes_of rfl rfl rfl rfl) (da_cons de_int (da_cons (de_var 3 (pv 3)) da_nil))) (da_cons (de_var 5 (pv 5)) da_nil))))) (dw_or1 (dt_cmp (op_neD hr.units) opd_ne (de_var 3 (pv 3)) (de_var 1 (pv 1)) (nomark _)))))) (db_one (ds_ret de_bl)) db_nil))
    (db_cons (ds_set (i := 6) (de_cl c_law_table hr (by decide) rfl (takes_of rfl rfl rfl rfl) (da_cons (de_var 0 (pv 0)) (da_cons de_int da_nil))) (fun t ht => ps_set (i := 6) nd rfl (by first | exact Or.inl rfl | exact Or.inr rfl) ht))
    (db_cons (ds_set (i := 7) (de_cl c_law_cell hr (by decide) rfl (takes_of rfl rfl rfl rfl) (da_cons (de_var 0 (pv 0)) (da_cons de_int da_nil))) (fun t ht => ps_set (i := 7) nd rfl (by first | exact Or.inl rfl | exact Or.inr rfl) ht))
    (db_cons (ds_if (dt_cmp (op_eqD hr.units) opd_eq (de_op op_mod od_mod (de_ty call_int1 cd_int rfl T.b_int PyProof.Rows.Boot.«int» (da_cons (de_var 7 (pv 7)) da_nil)) de_int) de_int (nomark _)) (db_one (ds_set (i := 6) (de_do (do_lst (da_cons (de_do (do_lcx (own := [("j", 8)]) (ix := [8]) rfl nd (blkOk_by (own := [("j", 8)]) (by kernel_rfl)) (di_r1 rfl T.b_range (da_cons de_int da_nil)) (fun _ _ _ _ _ => (dg_name (pg_name (i := 8) nd rfl (by first | exact Or.inl rfl | exact Or.inr rfl)))) (fun _ _ _ _ _ => dts_nil) (fun _ _ _ _ _ => (de_op op_add od_add de_int (de_op op_mod od_mod (de_ty call_int1 cd_int rfl T.b_int PyProof.Rows.Boot.«int» (da_cons (de_op op_shr od_shr (de_op op_fdiv od_div (de_var 7 (pv 7)) de_int) (de_var 8 (pv 8))) da_nil)) de_int))) (by decide))) da_nil))) (fun t ht => ps_set (i := 6) nd rfl (by first | exact Or.inl rfl | exact Or.inr rfl) ht))) db_nil)
    (db_cons (ds_if (dt_cmp (op_eqD hr.units) opd_eq (de_op op_mod od_mod (de_ty call_int1 cd_int rfl T.b_int PyProof.Rows.Boot.«int» (da_cons (de_var 7 (pv 7)) da_nil)) de_int) de_int (nomark _)) (db_one (ds_set (i := 6) (de_do (do_lst (da_cons (de_do (do_lst (da_cons de_int (da_cons de_int (da_cons de_int da_nil))))) (da_cons (de_do (do_lst (da_cons de_int (da_cons de_int (da_cons de_int da_nil))))) da_nil)))) (fun t ht => ps_set (i := 6) nd rfl (by first | exact Or.inl rfl | exact Or.inr rfl) ht))) db_nil)
    (db_cons (ds_set (i := 9) (de_cl c_law_digits hr (by decide) rfl (takes_of rfl rfl rfl rfl) (da_cons (de_var 0 (pv 0)) (da_cons de_int (da_cons (de_bi call_len cd_len rfl T.b_len PyProof.Rows.Boot.«len» (da_cons (de_ix ix_seq opd_ix (de_var 6 (pv 6)) de_int (fun _ _ => rfl)) da_nil)) (da_cons (de_ix ix_seq opd_ix (de_do (do_lst (da_cons de_int (da_cons de_int (da_cons de_int (da_cons de_int (da_cons de_int (da_cons de_int (da_cons de_int (da_cons de_int da_nil)))))))))) (de_op op_sub od_sub (de_bi call_len cd_len rfl T.b_len PyProof.Rows.Boot.«len» (da_cons (de_ix ix_seq opd_ix (de_var 6 (pv 6)) de_int (fun _ _ => rfl)) da_nil)) de_int) (fun _ _ => rfl)) da_nil))))) (fun t ht => ps_set (i := 9) nd rfl (by first | exact Or.inl rfl | exact Or.inr rfl) ht))
    (db_cons (ds_if (dt_cmp (op_eqD hr.units) opd_eq (de_bi call_len cd_len rfl T.b_len PyProof.Rows.Boot.«len» (da_cons (de_ix ix_seq opd_ix (de_var 6 (pv 6)) de_int (fun _ _ => rfl)) da_nil)) de_int (nomark _)) (db_one (ds_lcx (i := 9) (own := [("j", 8)]) (ix := [8]) rfl nd rfl rfl rfl rfl (by decide +kernel) (blkOk_by (own := [("j", 8)]) (by kernel_rfl)) (di_r1 rfl T.b_range (da_cons de_int da_nil)) (fun _ _ _ _ _ => (dg_name (pg_name (i := 8) nd rfl (by first | exact Or.inl rfl | exact Or.inr rfl)))) (fun _ _ _ _ _ => dts_nil) (fun _ _ _ _ _ => (de_ty call_int1 cd_int rfl T.b_int PyProof.Rows.Boot.«int» (da_cons (de_cmp op_in_seq opd_in (de_var 8 (pv 8)) (de_do (do_lst (da_cons (de_op op_mod od_mod (de_ty call_int1 cd_int rfl T.b_int PyProof.Rows.Boot.«int» (da_cons (de_op op_fdiv od_div (de_var 7 (pv 7)) de_int) da_nil)) de_int) (da_cons (de_op op_mod od_mod (de_ty call_int1 cd_int rfl T.b_int PyProof.Rows.Boot.«int» (da_cons (de_op op_fdiv od_div (de_var 7 (pv 7)) de_int) da_nil)) de_int) (da_cons (de_op op_mod od_mod (de_ty call_int1 cd_int rfl T.b_int PyProof.Rows.Boot.«int» (da_cons (de_op op_fdiv od_div (de_var 7 (pv 7)) de_int) da_nil)) de_int) da_nil))))) (by with_unfolding_all rfl)) da_nil))) (by decide))) db_nil)
    (db_cons (ds_frz' 9 (ds_setO (i := 10) (do_cl c_law_totals hr (by decide) rfl (takes_of rfl rfl rfl rfl) (da_cons (de_var 6 (pv 6)) (da_cons (de_var 9 (pv 9)) da_nil))) (fun t ht => ps_set (i := 10) nd rfl (by first | exact Or.inl rfl | exact Or.inr rfl) ht)))
    (db_cons (ds_if (dt_cmp (op_eqD hr.units) opd_eq (de_op op_mod od_mod (de_ty call_int1 cd_int rfl T.b_int PyProof.Rows.Boot.«int» (da_cons (de_op op_fdiv od_div (de_var 7 (pv 7)) de_int) da_nil)) de_int) de_int (nomark _)) (db_one (ds_frz' 10 (ds_setO (i := 10) (do_lcx (own := [("k", 11)]) (ix := [11]) rfl nd (blkOk_by (own := [("k", 11)]) (by kernel_rfl)) (di_r1 rfl T.b_range (da_cons (de_bi call_len cd_len rfl T.b_len PyProof.Rows.Boot.«len» (da_cons (de_var 10 (pv 10)) da_nil)) da_nil)) (fun _ _ _ _ _ => (dg_name (pg_name (i := 11) nd rfl (by first | exact Or.inl rfl | exact Or.inr rfl)))) (fun _ _ _ _ _ => dts_nil) (fun _ _ _ _ _ => (de_op op_add od_add (de_ix ix_seq opd_ix (de_var 10 (pv 10)) (de_var 11 (pv 11)) (fun _ _ => rfl)) (de_op op_mod od_mod (de_ty call_int1 cd_int rfl T.b_int PyProof.Rows.Boot.«int» (da_cons (de_op op_shr od_shr (de_var 7 (pv 7)) (de_op op_add od_add de_int (de_var 11 (pv 11)))) da_nil)) de_int))) (by decide)) (fun t ht => ps_set (i := 10) nd rfl (by first | exact Or.inl rfl | exact Or.inr rfl) ht)))) db_nil)
    (db_cons (ds_if (dt_cmp (op_eqD hr.units) opd_eq (de_op op_mod od_mod (de_ty call_int1 cd_int rfl T.b_int PyProof.Rows.Boot.«int» (da_cons (de_op op_fdiv od_div (de_var 7 (pv 7)) de_int) da_nil)) de_int) de_int (nomark _)) (db_one (ds_putx (i := 10) (pv 10) (de_op op_sub od_sub (de_un un_neg und_neg de_int) (de_op op_mod od_mod (de_ty call_int1 cd_int rfl T.b_int PyProof.Rows.Boot.«int» (da_cons (de_op op_fdiv od_div (de_var 7 (pv 7)) de_int) da_nil)) de_int)) (de_un un_neg und_neg de_int) (fun t u ht hu => ps_asg ht (pg_sub (pv 10) hu set_list)))) db_nil)
    (db_cons (ds_frz' 10 (ds_set (i := 12) (de_if (dt_cmp op_ge od_ge (de_bi (cr_min rfl) cd_minL rfl T.b_min PyProof.Rows.Boot.«min» (da_cons (de_var 10 (pv 10)) da_nil)) de_int (nomark _)) (de_cl c_law_choices hr (by decide) rfl (takes_of rfl rfl rfl rfl) (da_cons (de_var 6 (pv 6)) (da_cons (de_var 10 (pv 10)) da_nil))) (de_do (do_lst da_nil))) (fun t ht => ps_set (i := 12) nd rfl (by first | exact Or.inl rfl | exact Or.inr rfl) ht)))
    (db_cons (ds_frz' 9 (ds_set (i := 13) (de_do (do_lst (da_cons (de_do (do_lcx (own := [("row", 4)]) (ix := [4]) rfl nd (blkOk_by (own := [("row", 4)]) (by kernel_rfl)) (di_list (de_var 6 (pv 6))) (fun _ _ _ _ _ => (dg_name (pg_name (i := 4) nd rfl (by first | exact Or.inl rfl | exact Or.inr rfl)))) (fun _ _ _ _ _ => dts_nil) (fun _ _ _ _ _ => (de_do (do_ty call_list_of cl_list rfl T.b_list PyProof.Rows.Boot.«list» (da_cons (de_var 4 (pv 4)) da_nil)))) (by decide))) (da_cons (de_do (do_ty call_list_of cl_list rfl T.b_list PyProof.Rows.Boot.«list» (da_cons (de_var 9 (pv 9)) da_nil))) (da_cons (de_do (do_ty call_list_of cl_list rfl T.b_list PyProof.Rows.Boot.«list» (da_cons (de_var 10 (pv 10)) da_nil))) da_nil))))) (fun t ht => ps_set (i := 13) nd rfl (by first | exact Or.inl rfl | exact Or.inr rfl) ht)))
    (db_cons (ds_frz' 9 (ds_if (DW.dt (dw_or (dt_not (dt_val (de_cl c_law_is_whole hr (by decide) rfl (takes_of rfl rfl rfl rfl) (da_cons (de_cl c_totals hr (by decide) rfl (takes_of rfl rfl rfl rfl) (da_cons (de_var 6 (pv 6)) (da_cons (de_var 9 (pv 9)) da_nil))) (da_cons (de_cl c_law_totals hr (by decide) rfl (takes_of rfl rfl rfl rfl) (da_cons (de_ix ix_seq opd_ix (de_var 13 (pv 13)) de_int (fun _ _ => rfl)) (da_cons (de_ix ix_seq opd_ix (de_var 13 (pv 13)) de_int (fun _ _ => rfl)) da_nil))) da_nil))))) (dw_or1 (dt_cmp (op_neD hr.units) opd_ne (de_do (do_lst (da_cons (de_var 6 (pv 6)) (da_cons (de_var 9 (pv 9)) da_nil)))) (de_do (do_sl (de_var 13 (pv 13)) dp_none (dp_some de_int))) (nomark _))))) (db_one (ds_ret de_bl)) db_nil))
    (db_cons (ds_set (i := 14) (de_do (do_lst (da_cons (de_do (do_lcx (own := [("row", 4)]) (ix := [4]) rfl nd (blkOk_by (own := [("row", 4)]) (by kernel_rfl)) (di_list (de_var 6 (pv 6))) (fun _ _ _ _ _ => (dg_name (pg_name (i := 4) nd rfl (by first | exact Or.inl rfl | exact Or.inr rfl)))) (fun _ _ _ _ _ => dts_nil) (fun _ _ _ _ _ => (de_do (do_ty call_list_of cl_list rfl T.b_list PyProof.Rows.Boot.«list» (da_cons (de_var 4 (pv 4)) da_nil)))) (by decide))) (da_cons (de_do (do_ty call_list_of cl_list rfl T.b_list PyProof.Rows.Boot.«list» (da_cons (de_var 10 (pv 10)) da_nil))) da_nil)))) (fun t ht => ps_set (i := 14) nd rfl (by first | exact Or.inl rfl | exact Or.inr rfl) ht))
    (db_cons (ds_if (DW.dt (dw_or (dt_not (dt_val (de_cl c_law_same hr (by decide) rfl (takes_of rfl rfl rfl rfl) (da_cons (de_cl c_law_told hr (by decide) rfl (takes_of rfl rfl rfl rfl) (da_cons (de_ix ix_seq opd_ix (de_var 14 (pv 14)) de_int (fun _ _ => rfl)) (da_cons (de_ix ix_seq opd_ix (de_var 14 (pv 14)) de_int (fun _ _ => rfl)) (da_cons (de_bi call_len cd_len rfl T.b_len PyProof.Rows.Boot.«len» (da_cons (de_var 12 (pv 12)) da_nil)) da_nil)))) (da_cons (de_tup (da_cons de_str (da_cons (de_var 12 (pv 12)) da_nil))) da_nil))))) (dw_or1 (dt_cmp (op_neD hr.units) opd_ne (de_var 14 (pv 14)) (de_do (do_lst (da_cons (de_var 6 (pv 6)) (da_cons (de_var 10 (pv 10)) da_nil)))) (nomark _))))) (db_one (ds_ret de_bl)) db_nil)
    (db_one (ds_ret (de_or (de_cmp (op_eqD hr.units) opd_eq (de_var 12 (pv 12)) (de_do (do_lst da_nil)) (nomark _)) (de_one (de_cl c_law_same hr (by decide) rfl (takes_of rfl rfl rfl rfl) (da_cons (de_cl c_law_told hr (by decide) rfl (takes_of rfl rfl rfl rfl) (da_cons (de_ix ix_seq opd_ix (de_var 14 (pv 14)) de_int (fun _ _ => rfl)) (da_cons (de_ix ix_seq opd_ix (de_var 14 (pv 14)) de_int (fun _ _ => rfl)) (da_cons (de_op op_sub od_sub (de_bi call_len cd_len rfl T.b_len PyProof.Rows.Boot.«len» (da_cons (de_var 12 (pv 12)) da_nil)) de_int) da_nil)))) (da_cons (de_tup (da_cons de_str (da_cons de_bl da_nil))) da_nil)))))))))))))))))))))))))))
end K80
end

section
set_option Elab.async false
set_option linter.all false
set_option maxRecDepth 100000
set_option maxHeartbeats 1000000
namespace K80
open PySem PySem.Spec PyProof.Rows L2 Nm

/-! ### data -/
abbrev dI (ns : List Int) : D := .lst (ns.map D.int)
abbrev dR (rows : List (List Int)) : D := .lst (rows.map dI)
/-! ### most_pieces -/
def quots (cs ls : List Int) : List Int := (List.range cs.length).filterMap fun i => if 0 < cs.getD i 0 then some (ls.getD i 0 / cs.getD i 0) else none
theorem most_pieces_is (cs ls : List Int) (hl : cs.length ≤ ls.length) (hz : cs.length ≤ 1000) (hc : ∀ c ∈ cs, c < 1073741824) : frun 4 m_most_pieces [dI cs, dI ls] = match lmin (quots cs ls) with
    | some m => .sh (.int m)
    | none => .bad := by
  have key : runLc (gTp 2 (gCons (gNm 2) (gCons (gNm 3) gNil))) (mB (mBin gGt (mVar 3) (mC (.int 0)))) (mBin gDiv (mBin gIx (mVar 1) (mVar 2)) (mVar 3)) [2, 3] (pairs (cs.map D.int)) [.sh (dI cs), .sh (dI ls), .no, .no] =
      .ok ((quots cs ls).map D.int) [.sh (dI cs), .sh (dI ls), .no, .no] := by
    refine (runLc_fm (fun d => match d with
      | .tup [.int i, .int c] => if 0 < c then some (.int (ls.getD i.toNat 0 / c)) else none
      | _ => none) _ fun d hd => ?_).trans ?_
    · unfold pairs at hd
      rw [List.length_map] at hd
      obtain ⟨i, hi, rfl⟩ := List.mem_map.mp hd
      have hi' : i < cs.length := List.mem_range.mp hi
      have hi2 : i < ls.length := by omega
      have hcm := hc _ (List.getElem_mem hi')
      by_cases h0 : 0 < cs[i]
      · simp [stepLc, hi', h0, div_of h0 hcm, L2.atI, hi2, ixN]
      · simp [stepLc, hi', h0]
    · have e2 : (pairs (cs.map D.int)).filterMap (fun d => match d with
        | .tup [.int i, .int c] => if 0 < c then some (D.int (ls.getD i.toNat 0 / c)) else none
        | _ => none) = (quots cs ls).map D.int := by
        rw [show quots cs ls = (List.range cs.length).filterMap fun i => if 0 < cs.getD i 0 then some (ls.getD i 0 / cs.getD i 0) else none from rfl, show pairs (cs.map D.int) = (List.range (cs.map D.int).length).map fun i => D.tup [.int (i : Nat), (cs.map D.int).getD i .non] from rfl]
        rw [List.filterMap_map, List.map_filterMap, List.length_map]
        refine filterMap_ext fun i hi => ?_
        have hi' : i < cs.length := List.mem_range.mp hi
        simp [hi']
        skip
      rw [e2]
  simp [frun, m_most_pieces, env0]
  rw [if_pos (by rw [sizeLine_eq]; omega), key]
  simp [gMinL, gOfInts]
  cases lmin (quots cs ls) <;> rfl
end K80
end

section
set_option Elab.async false
set_option linter.all false
set_option maxRecDepth 100000
set_option maxHeartbeats 2000000
namespace K80
open PySem PySem.Spec PyProof.Rows L2 Nm

/-! ### choices: the stack -/
abbrev fMP : List D → FR := frun 4 m_most_pieces
def wT : MT := mBorT (mB (mBin gNe (mVar 8) (mL (mCB gLst mNil))))
def lcZ : MA := mLc (gNm 3) (mItems (mVar 12)) (mB (mBin gNe (mVar 3) (mC (.int 0)))) (mVar 3) [3]
def lcR : MA := mLc (gTp 2 (gCons (gNm 5) (gCons (gNm 3) gNil))) (mEnum (mCons (mVar 12) mNil)) mYes (mBin gSub (mVar 3) (mBin gMul (mVar 10) (mBin gIx (mVar 9) (mVar 5)))) [5, 3]
def bF : MS := sSeq (sSetO 13 lcR) (sFrz 13 (sAppend 8 (mCB gTup (mCons (mL (mBin gCat (mVar 11) (mL (mCB gLst (mCons (mVar 10) mNil))))) (mCons (mVar 13) mNil)))))
def wB : MS := sSeq (sPop 8 (gTp 2 (gCons (gNm 11) (gCons (gNm 12) gNil))))
  (sSeq (sFrz 4 (sIf (mB (mBin gEq (mCB gLen (mCons (mVar 11) mNil)) (mCB gLen (mCons (mVar 4) mNil)))) (sSeq (sIf (mB (mBin gEq (mL lcZ) (mL (mCB gLst mNil)))) (sSeq (sAppend 7 (mVar 11))
  (sIf (mBorT (mB (mBin gGt (mCB gLen (mCons (mVar 7) mNil)) (mVar 2)))) (sRaiseT "TooMany") sNx)) sNx)
  sCt) sNx))
  (sSeq (sFrz 4 (sSet 9 (mBin gIx (mVar 4) (mCB gLen (mCons (mVar 11) mNil)))))
  (sFor (gNm 10) (mRev1 (mBin gAdd (mCall 2 fMP (mCons (mVar 9) (mCons (mVar 12) mNil))) (mC (.int 1)))) bF)))
abbrev it (p : List Int × List Int) : D := .tup [dI p.1, dI p.2]
def Rc (tb due : D) (most : Int) (cs : List (List Int)) (found : List (List Int)) (wait : List (List Int × List Int)) (e : En) : Prop :=
  ∃ c4 c9 c10 c11 c12 c13, frzC c4 = .sh (dR cs) ∧ e = [.sh tb, .sh due, .sh (.int most), .no, c4, .no, .no, .ow (found.map dI), .ow (wait.map it), c9, c10, c11, c12, c13]
def zeros (ls : List Int) : Bool := ls.all fun x => x == 0
theorem frz_c4 {c4 : Cell} {d : D} (h : frzC c4 = .sh d) : c4 = .sh d ∨ ∃ l, c4 = .ow l ∧ d = .lst l := by
  cases c4 with
  | no => cases h
  | sh x => cases h; exact .inl rfl
  | ow l => cases h; exact .inr ⟨l, rfl, rfl⟩
theorem lcZ_is (ls : List Int) (e0 e1 e2 e4 e5 e6 e7 e8 e9 e10 e11 e13 : Cell) (hz : ls.length ≤ 1000) : lcZ [e0, e1, e2, .no, e4, e5, e6, e7, e8, e9, e10, e11, .sh (dI ls), e13] =
    .ok ((ls.filter fun x => !(x == 0)).map D.int) [e0, e1, e2, .no, e4, e5, e6, e7, e8, e9, e10, e11, .sh (dI ls), e13] := by
  simp [lcZ]
  rw [if_pos (by rw [sizeLine_eq]; omega), runLc_fm (fun d => match d with
    | .int x => if x = 0 then none else some (.int x)
    | _ => none)]
  · have e1 : ∀ xs : List Int, (xs.map D.int).filterMap (fun d => match d with
      | .int x => if x = 0 then none else some (.int x)
      | _ => none) = (xs.filter fun x => !(x == 0)).map D.int := by
      intro xs
      induction xs with
      | nil => rfl
      | cons x xs ih =>
        rw [List.map_cons, List.filterMap_cons, ih, List.filter_cons]
        by_cases h : x = 0
        · simp [h]
        · simp [h]
    rw [e1]
    simp
  · intro d hd
    obtain ⟨x, hx, rfl⟩ := List.mem_map.mp hd
    by_cases h : x = 0
    · simp [stepLc, h]
    · simp [stepLc, h]
theorem zeros_filter (ls : List Int) : ((ls.filter fun x => !(x == 0)).map D.int).isEmpty = zeros ls := by
  induction ls with
  | nil => rfl
  | cons x xs ih =>
    by_cases h : x = 0
    · simp [h, zeros] at ih ⊢
      exact ih
    · simp [h, zeros]

section
variable {tb due : D} {most : Int} {cs : List (List Int)} {found : List (List Int)} {rest : List (List Int × List Int)} {begun left : List Int} {e : En}
theorem popped (R : Rc tb due most cs found (rest ++ [(begun, left)]) e) : ∃ c4 c9 c10 c13, frzC c4 = .sh (dR cs) ∧
    sPop 8 (gTp 2 (gCons (gNm 11) (gCons (gNm 12) gNil))) e = .nx [.sh tb, .sh due, .sh (.int most), .no, c4, .no, .no, .ow (found.map dI), .ow (rest.map it), c9, c10, .sh (dI begun), .sh (dI left), c13] := by
  obtain ⟨c4, c9, c10, c11, c12, c13, h4, rfl⟩ := R
  refine ⟨c4, c9, c10, c13, h4, ?_⟩
  simp
/-- columns once frozen -/
theorem frz4 {c4 : Cell} (h4 : frzC c4 = .sh (dR cs)) (a0 a1 a2 a3 a5 a6 a7 a8 a9 a10 a11 a12 a13 : Cell) : frz 4 [a0, a1, a2, a3, c4, a5, a6, a7, a8, a9, a10, a11, a12, a13] = [a0, a1, a2, a3, .sh (dR cs), a5, a6, a7, a8, a9, a10, a11, a12, a13] := by
  rcases frz_c4 h4 with rfl | ⟨l, rfl, h⟩
  · simp
  · simp at h ⊢
    rw [h]
theorem leaf_no (hl : left.length ≤ 1000) (hb : begun.length = cs.length) (hz : zeros left = false) (R : Rc tb due most cs found (rest ++ [(begun, left)]) e) : ∃ e', wB e = .ct e' ∧ Rc tb due most cs found rest e' := by
  obtain ⟨c4, c9, c10, c13, h4, hp⟩ := popped R
  refine ⟨[.sh tb, .sh due, .sh (.int most), .no, .sh (dR cs), .no, .no, .ow (found.map dI), .ow (rest.map it), c9, c10, .sh (dI begun), .sh (dI left), c13], ?_, ⟨_, _, _, _, _, _, rfl, rfl⟩⟩
  unfold wB sSeq
  rw [hp]
  dsimp only
  unfold sFrz
  rw [frz4 h4]
  have e1 := zeros_filter left
  rw [hz, List.isEmpty_map] at e1
  simp [hb, lcZ_is _ _ _ _ _ _ _ _ _ _ _ _ _ hl, e1]
theorem leaf_yes (hl : left.length ≤ 1000) (hb : begun.length = cs.length) (hz : zeros left = true) (hm : (found.length : Int) + 1 ≤ most) (hs : found.length < sizeLine) (R : Rc tb due most cs found (rest ++ [(begun, left)]) e) :
    ∃ e', wB e = .ct e' ∧ Rc tb due most cs (found ++ [begun]) rest e' := by
  obtain ⟨c4, c9, c10, c13, h4, hp⟩ := popped R
  refine ⟨[.sh tb, .sh due, .sh (.int most), .no, .sh (dR cs), .no, .no, .ow ((found ++ [begun]).map dI), .ow (rest.map it), c9, c10, .sh (dI begun), .sh (dI left), c13], ?_, ⟨_, _, _, _, _, _, rfl, rfl⟩⟩
  unfold wB sSeq
  rw [hp]
  dsimp only
  unfold sFrz
  rw [frz4 h4]
  have e1 := zeros_filter left
  rw [hz, List.isEmpty_map] at e1
  have e2 : ¬ (most < (found.length : Int) + 1) := by omega
  simp [hb, lcZ_is _ _ _ _ _ _ _ _ _ _ _ _ _ hl, e1, hs, e2]
theorem leaf_many (hl : left.length ≤ 1000) (hb : begun.length = cs.length) (hz : zeros left = true) (hm : most < (found.length : Int) + 1) (hs : found.length < sizeLine) (R : Rc tb due most cs found (rest ++ [(begun, left)]) e) :
    ∃ e', wB e = .exc ⟨"TooMany", []⟩ e' := by
  obtain ⟨c4, c9, c10, c13, h4, hp⟩ := popped R
  refine ⟨[.sh tb, .sh due, .sh (.int most), .no, .sh (dR cs), .no, .no, .ow ((found ++ [begun]).map dI), .ow (rest.map it), c9, c10, .sh (dI begun), .sh (dI left), c13], ?_⟩
  unfold wB sSeq
  rw [hp]
  dsimp only
  unfold sFrz
  rw [frz4 h4]
  have e1 := zeros_filter left
  rw [hz, List.isEmpty_map] at e1
  simp [hb, lcZ_is _ _ _ _ _ _ _ _ _ _ _ _ _ hl, e1, hs, hm]
end

def sub (ls cs : List Int) (x : Int) : List Int := (List.range ls.length).map fun i => ls.getD i 0 - x * cs.getD i 0
theorem lcR_is (ls cs : List Int) (x : Int) (hl : ls.length ≤ cs.length) (hz : ls.length ≤ 1000) (hc : ∀ c ∈ cs, 0 ≤ c ∧ c < 2 ^ 64) (e0 e1 e2 e4 e6 e7 e8 e11 e13 : Cell) :
    lcR [e0, e1, e2, .no, e4, .no, e6, e7, e8, .sh (dI cs), .sh (.int x), e11, .sh (dI ls), e13] = .ok ((sub ls cs x).map D.int) [e0, e1, e2, .no, e4, .no, e6, e7, e8, .sh (dI cs), .sh (.int x), e11, .sh (dI ls), e13] := by
  simp [lcR]
  rw [if_pos (by rw [sizeLine_eq]; omega), runLc_map (fun d => match d with
    | .tup [.int i, .int n] => .int (n - x * cs.getD i.toNat 0)
    | _ => .non)]
  · have e1 : (pairs (ls.map D.int)).map (fun d => match d with
      | .tup [.int i, .int n] => D.int (n - x * cs.getD i.toNat 0)
      | _ => .non) = (sub ls cs x).map D.int := by
      rw [show sub ls cs x = (List.range ls.length).map fun i => ls.getD i 0 - x * cs.getD i 0 from rfl, show pairs (ls.map D.int) = (List.range (ls.map D.int).length).map fun i => D.tup [.int (i : Nat), (ls.map D.int).getD i .non] from rfl]
      rw [List.map_map, List.map_map, List.length_map]
      refine map_ext fun i hi => ?_
      have hi' : i < ls.length := List.mem_range.mp hi
      simp [hi']
    rw [e1]
    simp
  · intro d hd
    unfold pairs at hd
    rw [List.length_map] at hd
    obtain ⟨i, hi, rfl⟩ := List.mem_map.mp hd
    have hi' : i < ls.length := List.mem_range.mp hi
    have hi2 : i < cs.length := by omega
    have hcm := hc _ (List.getElem_mem hi2)
    have hmul : cMul x cs[i] = true := by
      exact mul_r (by omega)
    simp [stepLc, hi', hi2, L2.atI, ixN, hmul]
section
variable {tb due : D} {most : Int} {cs : List (List Int)} {found : List (List Int)} {begun left c : List Int} {e : En}
def ch (begun left c : List Int) (x : Int) : List Int × List Int := (begun ++ [x], sub left c x)
/-- within the for loop -/
def Rf (tb due : D) (most : Int) (cs : List (List Int)) (found : List (List Int)) (begun left c : List Int) (w : List (List Int × List Int)) (e : En) : Prop :=
  ∃ c10 c13, e = [.sh tb, .sh due, .sh (.int most), .no, .sh (dR cs), .no, .no, .ow (found.map dI), .ow (w.map it), .sh (dI c), c10, .sh (dI begun), .sh (dI left), c13]
theorem push_one (hl : left.length ≤ c.length) (hz : left.length ≤ 1000) (hc : ∀ y ∈ c, 0 ≤ y ∧ y < 2 ^ 64) (hb : begun.length ≤ 1000) {w : List (List Int × List Int)} (hw : w.length < sizeLine) (x : Int) (R : Rf tb due most cs found begun left c w e) :
    ∃ e', stepFor (gNm 10) bF (.int x) e = some e' ∧ Rf tb due most cs found begun left c (w ++ [ch begun left c x]) e' := by
  obtain ⟨c10, c13, rfl⟩ := R
  refine ⟨[.sh tb, .sh due, .sh (.int most), .no, .sh (dR cs), .no, .no, .ow (found.map dI), .ow ((w ++ [ch begun left c x]).map it), .sh (dI c), .sh (.int x), .sh (dI begun), .sh (dI left), .sh (dI (sub left c x))], ?_, ⟨_, _, rfl⟩⟩
  have hz2 : begun.length + 1 ≤ sizeLine := by rw [sizeLine_eq]; omega
  have hz3 : (1 : Nat) ≤ sizeLine := by rw [sizeLine_eq]; omega
  have hz4 : (2 : Nat) ≤ sizeLine := by rw [sizeLine_eq]; omega
  simp [stepFor, bF, lcR_is left c x hl hz hc, hw, hz2, hz3, hz4, ch]
theorem push_all (hl : left.length ≤ c.length) (hz : left.length ≤ 1000) (hc : ∀ y ∈ c, 0 ≤ y ∧ y < 2 ^ 64) (hb : begun.length ≤ 1000) : ∀ (xs : List Int) (w : List (List Int × List Int)) (e : En), w.length + xs.length ≤ sizeLine → Rf tb due most cs found begun left c w e →
    ∃ e', runFor (gNm 10) bF (xs.map D.int) e = .nx e' ∧ Rf tb due most cs found begun left c (w ++ xs.map (ch begun left c)) e'
  | [], w, e, _, R => ⟨e, rfl, by simpa using R⟩
  | x :: xs, w, e, hw, R => by
    simp at hw
    obtain ⟨e1, h1, R1⟩ := push_one hl hz hc hb (by omega) x R
    obtain ⟨e2, h2, R2⟩ := push_all hl hz hc hb xs _ e1 (by simp; omega) R1
    refine ⟨e2, ?_, by simpa using R2⟩
    rw [List.map_cons]
    unfold stepFor at h1
    unfold runFor
    cases hg : gNm 10 (.int x) e with
    | none =>
      rw [hg] at h1
      cases h1
    | some e3 =>
    rw [hg] at h1
    dsimp only at h1 ⊢
    cases hb : bF e3 with
    | nx e4 =>
      rw [hb] at h1
      cases h1
      exact h2
    | ct e4 =>
      rw [hb] at h1
      cases h1
      exact h2
    | rt r e4 =>
      rw [hb] at h1
      cases h1
    | bk e4 =>
      rw [hb] at h1
      cases h1
    | exc x e4 =>
      rw [hb] at h1
      cases h1
    | bad =>
      rw [hb] at h1
      cases h1
/-- the counts, from the greatest one -/
def cts (m : Nat) : List Int := (List.range (m + 1)).map fun i => ((m : Int) - (i : Nat))
theorem downs_cts (m : Nat) : downs (m + 1) = (cts m).map D.int := by
  unfold downs cts
  rw [List.map_map]
  refine map_ext fun i _ => ?_
  simp
theorem rev_at {m : ME} {e e1 : En} {j : Int} (h : m e = .ok (.int j) e1) (hin : Nm.inR j = true) : mRev1 m e = .ok (downs j.toNat) e1 := by
  unfold mRev1
  rw [h]
  simp [hin]
theorem cts_length (m : Nat) : (cts m).length = m + 1 := by simp [cts]
theorem node {rest : List (List Int × List Int)} {m : Nat} (hk : cs[begun.length]? = some c) (hl : left.length ≤ c.length) (hl2 : c.length ≤ left.length) (hz : left.length ≤ 1000) (hc : ∀ y ∈ c, 0 ≤ y ∧ y ≤ 1000) (hb : begun.length ≤ 1000)
    (hm : lmin (quots c left) = some (m : Int)) (hm2 : m ≤ 100000) (hw : rest.length + (m + 1) ≤ sizeLine) (R : Rc tb due most cs found (rest ++ [(begun, left)]) e) :
    ∃ e', wB e = .nx e' ∧ Rc tb due most cs found (rest ++ (cts m).map (ch begun left c)) e' := by
  obtain ⟨c4, c9, c10, c13, h4, hp⟩ := popped R
  have hlt : begun.length < cs.length := (List.getElem?_eq_some_iff.mp hk).1
  have hne : ¬ ((begun.length : Int) = (cs.length : Int)) := by omega
  have hmp := most_pieces_is c left hl2 (by omega) fun y hy => by have := hc y hy; omega
  rw [hm] at hmp
  obtain ⟨e2, h2, c10', c13', rfl⟩ := push_all (tb := tb) (due := due) (most := most) (cs := cs) (found := found) (begun := begun) hl hz (fun y hy => by have := hc y hy; omega) hb (cts m) rest
    [.sh tb, .sh due, .sh (.int most), .no, .sh (dR cs), .no, .no, .ow (found.map dI), .ow (rest.map it), .sh (dI c), c10, .sh (dI begun), .sh (dI left), c13] (by rw [cts_length]; exact hw) ⟨_, _, rfl⟩
  refine ⟨_, ?_, ⟨.sh (dR cs), .sh (dI c), c10', .sh (dI begun), .sh (dI left), c13', rfl, rfl⟩⟩
  have hat : L2.atI (cs.map dI) (begun.length : Int) = some (dI c) := atI_nat (by rw [List.getElem?_map, hk]; rfl)
  have hin : Nm.inR ((m : Int) + 1) = true := inR_of (by omega)
  have hto : ((m : Int) + 1).toNat = m + 1 := by omega
  refine (sSeq_nx hp).trans ((sSeq_nx (e1 := [.sh tb, .sh due, .sh (.int most), .no, .sh (dR cs), .no, .no, .ow (found.map dI), .ow (rest.map it), c9, c10, .sh (dI begun), .sh (dI left), c13]) ?_).trans ((sSeq_nx (e1 := [.sh tb, .sh due, .sh (.int most), .no, .sh (dR cs), .no, .no, .ow (found.map dI), .ow (rest.map it), .sh (dI c), c10, .sh (dI begun), .sh (dI left), c13]) ?_).trans ?_))
  · unfold sFrz
    rw [frz4 h4]
    simp [hne]
  · simp [hat]
  · have h3 : mRev1 (mBin gAdd (mCall 2 fMP (mCons (mVar 9) (mCons (mVar 12) mNil))) (mC (.int 1))) [.sh tb, .sh due, .sh (.int most), .no, .sh (dR cs), .no, .no, .ow (found.map dI), .ow (rest.map it), .sh (dI c), c10, .sh (dI begun), .sh (dI left), c13] =
        .ok ((cts m).map D.int) [.sh tb, .sh due, .sh (.int most), .no, .sh (dR cs), .no, .no, .ow (found.map dI), .ow (rest.map it), .sh (dI c), c10, .sh (dI begun), .sh (dI left), c13] := by
      have hb : mBin gAdd (mCall 2 fMP (mCons (mVar 9) (mCons (mVar 12) mNil))) (mC (.int 1)) [.sh tb, .sh due, .sh (.int most), .no, .sh (dR cs), .no, .no, .ow (found.map dI), .ow (rest.map it), .sh (dI c), c10, .sh (dI begun), .sh (dI left), c13] =
          .ok (.int ((m : Int) + 1)) [.sh tb, .sh due, .sh (.int most), .no, .sh (dR cs), .no, .no, .ow (found.map dI), .ow (rest.map it), .sh (dI c), c10, .sh (dI begun), .sh (dI left), c13] := by
        simp [fMP, hmp]
      rw [← downs_cts, ← hto]
      exact rev_at hb hin
    exact (for_at h3).trans h2
end

/-! ### the whole walk -/
def mpN (c ls : List Int) : Nat := ((lmin (quots c ls)).getD 0).toNat
def sols : List (List Int) → List Int → List (List Int)
  | [], ls => if zeros ls = true then [[]] else []
  | c :: cs, ls => (List.range (mpN c ls + 1)).flatMap fun (x : Nat) => (sols cs (sub ls c (x : Int))).map fun v => (x : Int) :: v
theorem sols_cons (c : List Int) (cs : List (List Int)) (ls : List Int) : sols (c :: cs) ls = (List.range (mpN c ls + 1)).flatMap fun (x : Nat) => (sols cs (sub ls c (x : Int))).map fun v => (x : Int) :: v := rfl
/-- what holds of what is left, at the remaining columns: the counts are known and small -/
def Good (h M : Nat) : List (List Int) → List Int → Prop
  | [], ls => ls.length = h
  | c :: cs, ls => ls.length = h ∧ c.length = h ∧ (∀ y ∈ c, 0 ≤ y ∧ y ≤ 1000) ∧ lmin (quots c ls) = some (mpN c ls : Int) ∧ mpN c ls ≤ M ∧ ∀ x : Nat, x ≤ mpN c ls → Good h M cs (sub ls c (x : Int))
/-- the turns of a subtree -/
def nd (M : Nat) : Nat → Nat
  | 0 => 1
  | k + 1 => (M + 1) * nd M k + 1
abbrev run (n : Nat) (e : En) : Out := runWhile wT wB n e
theorem wT_is {tb due : D} {most : Int} {cs : List (List Int)} {found : List (List Int)} {wait : List (List Int × List Int)} {e : En} (R : Rc tb due most cs found wait e) : wT e = .ok (!wait.isEmpty) e := by
  obtain ⟨c4, c9, c10, c11, c12, c13, h4, rfl⟩ := R
  have hok : okN 3 (.lst (wait.map it)) := okN_lst fun d hd => by
    obtain ⟨p, _, rfl⟩ := List.mem_map.mp hd
    exact okN_tup fun d hd => by
      simp at hd
      rcases hd with rfl | rfl
      · exact okN_ints _
      · exact okN_ints _
  simp [wT, gNe_nil hok]
theorem run_ct {tb due : D} {most : Int} {cs : List (List Int)} {found : List (List Int)} {wait : List (List Int × List Int)} {e e' : En} (n : Nat) (R : Rc tb due most cs found wait e) (hw : wait ≠ []) (h : wB e = .ct e' ∨ wB e = .nx e') : run (n + 1) e = run n e' := by
  have h1 := wT_is R
  have h2 : wait.isEmpty = false := by
    cases wait with
    | nil => exact absurd rfl hw
    | cons => rfl
  rw [h2] at h1
  show (wT e).so _ = _
  rw [h1]
  simp only [Res.so_ok, Bool.not_false, if_true]
  rcases h with h | h <;> rw [h]
theorem run_exc {tb due : D} {most : Int} {cs : List (List Int)} {found : List (List Int)} {wait : List (List Int × List Int)} {e e' : En} {x : Exc} (n : Nat) (R : Rc tb due most cs found wait e) (hw : wait ≠ []) (h : wB e = .exc x e') : run (n + 1) e = .exc x e' := by
  have h1 := wT_is R
  have h2 : wait.isEmpty = false := by
    cases wait with
    | nil => exact absurd rfl hw
    | cons => rfl
  rw [h2] at h1
  show (wT e).so _ = _
  rw [h1]
  simp only [Res.so_ok, Bool.not_false, if_true, h]
/-- how a part of the walk goes on: all found are kept, or there are too many -/
def Goes (tb due : D) (most : Int) (cs : List (List Int)) (found L : List (List Int)) (rest : List (List Int × List Int)) (B : Nat) (e : En) : Prop :=
  (((found.length + L.length : Nat) : Int) ≤ most → ∃ m e', m ≤ B ∧ Rc tb due most cs (found ++ L) rest e' ∧ ∀ n, run (m + n) e = run n e') ∧
  (most < ((found.length + L.length : Nat) : Int) → ∃ m e', m ≤ B ∧ ∀ n, run (m + n) e = .exc ⟨"TooMany", []⟩ e')
theorem goes_list {tb due : D} {most : Int} {cs : List (List Int)} {B : Nat} (Lf : List Int × List Int → List (List Int)) : ∀ (its : List (List Int × List Int)) (found : List (List Int)) (rest : List (List Int × List Int)) (e : En),
    (∀ p ∈ its, ∀ (found : List (List Int)) (w : List (List Int × List Int)) (e : En), w.length ≤ rest.length + its.length - 1 → (found.length : Int) ≤ most → Rc tb due most cs found (w ++ [p]) e → Goes tb due most cs found (Lf p) w B e) →
    (found.length : Int) ≤ most → Rc tb due most cs found (rest ++ its.reverse) e → Goes tb due most cs found (its.flatMap Lf) rest (its.length * B) e
  | [], found, rest, e, _, hf, R => by
    refine ⟨fun _ => ⟨0, e, Nat.zero_le _, ?_, fun n => by rw [Nat.zero_add]⟩, fun h => ?_⟩
    · simpa using R
    · simp at h
      omega
  | p :: its, found, rest, e, H, hf, R => by
    rw [List.reverse_cons, ← List.append_assoc] at R
    have h0 := H p List.mem_cons_self found (rest ++ its.reverse) e (by simp) hf R
    rw [List.flatMap_cons]
    have hB : (p :: its).length * B = B + its.length * B := by rw [List.length_cons, Nat.succ_mul, Nat.add_comm]
    rw [hB]
    refine ⟨fun h => ?_, fun h => ?_⟩
    · rw [List.length_append] at h
      obtain ⟨m1, e1, hm1, R1, r1⟩ := h0.1 (by omega)
      have ih := goes_list Lf its (found ++ Lf p) rest e1 (fun q hq f w e hw => H q (List.mem_cons_of_mem _ hq) f w e (by simp; omega)) (by rw [List.length_append]; omega) R1
      obtain ⟨m2, e2, hm2, R2, r2⟩ := ih.1 (by rw [List.length_append]; omega)
      refine ⟨m1 + m2, e2, by omega, by rw [← List.append_assoc]; exact R2, fun n => ?_⟩
      rw [Nat.add_assoc, r1, r2]
    · rw [List.length_append] at h
      by_cases h1 : ((found.length + (Lf p).length : Nat) : Int) ≤ most
      · obtain ⟨m1, e1, hm1, R1, r1⟩ := h0.1 h1
        have ih := goes_list Lf its (found ++ Lf p) rest e1 (fun q hq f w e hw => H q (List.mem_cons_of_mem _ hq) f w e (by simp; omega)) (by rw [List.length_append]; omega) R1
        obtain ⟨m2, e2, hm2, r2⟩ := ih.2 (by rw [List.length_append]; omega)
        exact ⟨m1 + m2, e2, by omega, fun n => by rw [Nat.add_assoc, r1, r2]⟩
      · obtain ⟨m1, e1, hm1, r1⟩ := h0.2 (by omega)
        exact ⟨m1, e1, by omega, r1⟩

theorem Goes.step {tb due : D} {most : Int} {cs found L : List (List Int)} {rest wait : List (List Int × List Int)} {B : Nat} {e e1 : En} (R : Rc tb due most cs found wait e) (hw : wait ≠ []) (h : wB e = .ct e1 ∨ wB e = .nx e1) (G : Goes tb due most cs found L rest B e1) : Goes tb due most cs found L rest (B + 1) e := by
  refine ⟨fun a => ?_, fun a => ?_⟩
  · obtain ⟨m, e', hm, R', r⟩ := G.1 a
    refine ⟨m + 1, e', by omega, R', fun n => ?_⟩
    have : m + 1 + n = (m + n) + 1 := by omega
    rw [this, run_ct _ R hw h, r]
  · obtain ⟨m, e', hm, r⟩ := G.2 a
    refine ⟨m + 1, e', by omega, fun n => ?_⟩
    have : m + 1 + n = (m + n) + 1 := by omega
    rw [this, run_ct _ R hw h, r]
theorem Goes.mono {tb due : D} {most : Int} {cs found L : List (List Int)} {rest : List (List Int × List Int)} {B B' : Nat} {e : En} (G : Goes tb due most cs found L rest B e) (h : B ≤ B') : Goes tb due most cs found L rest B' e :=
  ⟨fun a => let ⟨m, e', hm, R', r⟩ := G.1 a; ⟨m, e', Nat.le_trans hm h, R', r⟩, fun a => let ⟨m, e', hm, r⟩ := G.2 a; ⟨m, e', Nat.le_trans hm h, r⟩⟩
theorem cts_rev (m : Nat) : cts m = ((List.range (m + 1)).map fun x : Nat => (x : Int)).reverse := by
  refine List.ext_getElem (by simp [cts]) fun i h1 h2 => ?_
  simp [cts] at h1 ⊢
  omega
theorem goes_tree {tb due : D} {most : Int} {cs : List (List Int)} {h M : Nat} (hh : h ≤ 1000) (hM : M ≤ 100000) (hcs : cs.length ≤ 1000) (hs : most < (sizeLine : Nat)) : ∀ (rem : List (List Int)) (begun left : List Int) (found : List (List Int)) (rest : List (List Int × List Int)) (e : En),
    cs.drop begun.length = rem → begun.length ≤ cs.length → Good h M rem left → rest.length + rem.length * (M + 1) + 1 ≤ sizeLine → (found.length : Int) ≤ most → Rc tb due most cs found (rest ++ [(begun, left)]) e →
    Goes tb due most cs found ((sols rem left).map (begun ++ ·)) rest (nd M rem.length) e
  | [], begun, left, found, rest, e, hd, hb, hg, hz, hf, R => by
    have hlen : begun.length = cs.length := by
      have := congrArg List.length hd
      rw [List.length_drop] at this
      simp at this
      omega
    have hl : left.length ≤ 1000 := by
      have : left.length = h := hg
      omega
    have hne : rest ++ [(begun, left)] ≠ [] := by simp
    have hfs : found.length < sizeLine := by omega
    cases hzl : zeros left with
    | false =>
      obtain ⟨e', h1, R'⟩ := leaf_no hl hlen hzl R
      have hL : (sols [] left).map (begun ++ ·) = [] := by simp [sols, hzl]
      rw [hL]
      refine ⟨fun _ => ⟨1, e', Nat.le_refl _, by simpa using R', fun n => ?_⟩, fun a => ?_⟩
      · rw [Nat.add_comm, run_ct n R hne (.inl h1)]
      · simp at a
        omega
    | true =>
      have hL : (sols [] left).map (begun ++ ·) = [begun] := by simp [sols, hzl]
      rw [hL]
      refine ⟨fun a => ?_, fun a => ?_⟩
      · obtain ⟨e', h1, R'⟩ := leaf_yes hl hlen hzl (by simpa using a) hfs R
        exact ⟨1, e', Nat.le_refl _, R', fun n => by rw [Nat.add_comm, run_ct n R hne (.inl h1)]⟩
      · obtain ⟨e', h1⟩ := leaf_many hl hlen hzl (by simpa using a) hfs R
        exact ⟨1, e', Nat.le_refl _, fun n => by rw [Nat.add_comm, run_exc n R hne h1]⟩
  | c :: rem, begun, left, found, rest, e, hd, hb, hg, hz, hf, R => by
    obtain ⟨g1, g2, g3, g4, g5, g6⟩ := hg
    have hne : rest ++ [(begun, left)] ≠ [] := by simp
    have hk : cs[begun.length]? = some c := by
      have := congrArg (fun l => l[0]?) hd
      simpa using this
    have hlt : begun.length < cs.length := (List.getElem?_eq_some_iff.mp hk).1
    have hd2 : cs.drop (begun.length + 1) = rem := by
      have := congrArg List.tail hd
      simpa using this
    rw [List.length_cons, Nat.succ_mul] at hz
    obtain ⟨e', h1, R'⟩ := node (m := mpN c left) hk (by omega) (by omega) (by omega) g3 (by omega) g4 (by omega) (by omega) R
    rw [cts_rev, List.map_reverse, List.map_map] at R'
    refine Goes.step R hne (.inr h1) ?_
    have e2 : (sols (c :: rem) left).map (begun ++ ·) = (((List.range (mpN c left + 1)).map (ch begun left c ∘ fun x : Nat => (x : Int))).flatMap fun p => (sols rem p.2).map (p.1 ++ ·)) := by
      rw [List.flatMap_map, sols_cons, List.map_flatMap]
      congr 1
      funext x
      rw [List.map_map]
      refine map_ext fun v _ => ?_
      simp [ch]
    rw [e2]
    have G := goes_list (B := nd M rem.length) (fun p => (sols rem p.2).map (p.1 ++ ·)) _ found rest e' (fun p hp found w e hw hf R => ?_) hf R'
    · refine G.mono ?_
      rw [List.length_map, List.length_range]
      exact Nat.mul_le_mul_right _ (by omega)
    · obtain ⟨x, hx, rfl⟩ := List.mem_map.mp hp
      have hx' : x < mpN c left + 1 := List.mem_range.mp hx
      rw [List.length_map, List.length_range] at hw
      refine goes_tree hh hM hcs hs rem (begun ++ [(x : Int)]) (sub left c x) found w e ?_ ?_ (g6 x (by omega)) ?_ hf R
      · simpa using hd2
      · simp
        omega
      · omega
end K80
end

section
set_option Elab.async false
set_option linter.all false
set_option maxRecDepth 100000
set_option maxHeartbeats 2000000
namespace K80
open PySem PySem.Spec PyProof.Rows L2 Nm

/-! ### choices as a whole -/
def colAt (rows : List (List Int)) (j : Nat) : List Int := rows.map fun r => r.getD j 0
def colsOf (rows : List (List Int)) (w : Nat) : List (List Int) := (List.range w).map (colAt rows)
/-- the rows have one width, not 0 -/
def Rect (rows : List (List Int)) (w : Nat) : Prop := rows ≠ [] ∧ rows.length ≤ 1000 ∧ w ≤ 1000 ∧ ∀ r ∈ rows, r.length = w
theorem at0 {rows : List (List Int)} {w : Nat} (h : Rect rows w) : ∃ r rs, rows = r :: rs ∧ r.length = w := by
  obtain ⟨h1, _, _, h2⟩ := h
  cases rows with
  | nil => exact absurd rfl h1
  | cons r rs => exact ⟨r, rs, rfl, h2 r List.mem_cons_self⟩
def lcC : MA := mLc (gNm 5) (mRng1 (mCons (mCB gLen (mCons (mBin gIx (mVar 0) (mC (.int 0))) mNil)) mNil)) mYes (mL (mLc (gNm 6) (mItems (mVar 0)) mYes (mBin gIx (mVar 6) (mVar 5)) [6])) [5]
theorem lcC_is {rows : List (List Int)} {w : Nat} (h : Rect rows w) (e1 e2 e3 e4 e7 e8 e9 e10 e11 e12 e13 : Cell) : lcC [.sh (dR rows), e1, e2, e3, e4, .no, .no, e7, e8, e9, e10, e11, e12, e13] = .ok ((colsOf rows w).map dI) [.sh (dR rows), e1, e2, e3, e4, .no, .no, e7, e8, e9, e10, e11, e12, e13] := by
  have hr : mRng1 (mCons (mCB gLen (mCons (mBin gIx (mVar 0) (mC (.int 0))) mNil)) mNil) [.sh (dR rows), e1, e2, e3, e4, .no, .no, e7, e8, e9, e10, e11, e12, e13] = .ok ((List.range w).map fun i : Nat => D.int (i : Nat)) [.sh (dR rows), e1, e2, e3, e4, .no, .no, e7, e8, e9, e10, e11, e12, e13] := by
    refine rngN_at ?_ (by have := h.2.2.1; omega)
    obtain ⟨r, rs, rfl, hw⟩ := at0 h
    have hat : L2.atI ((r :: rs).map dI) 0 = some (dI r) := atI_nat (j := 0) rfl
    simp at hat
    simp [hat, hw]
  have hz : w ≤ sizeLine := by have := h.2.2.1; rw [sizeLine_eq]; omega
  have hz2 : rows.length ≤ sizeLine := by have := h.2.1; rw [sizeLine_eq]; omega
  have key : ∀ i : Nat, i < w → runLc (gNm 6) mYes (mBin gIx (mVar 6) (mVar 5)) [6] (rows.map dI) [.sh (dR rows), e1, e2, e3, e4, .sh (.int (i : Nat)), .no, e7, e8, e9, e10, e11, e12, e13] =
      .ok ((colAt rows i).map D.int) [.sh (dR rows), e1, e2, e3, e4, .sh (.int (i : Nat)), .no, e7, e8, e9, e10, e11, e12, e13] := fun i hi => by
    unfold colAt
    rw [List.map_map]
    refine runLc_mapF dI (D.int ∘ fun r => r.getD i 0) rows fun r hr => ?_
    have hl := h.2.2.2 r hr
    have hi2 : i < r.length := by omega
    simp [stepLc, L2.atI, ixN, hi2]
  have k2 := runLc_mapF (g := gNm 5) (t := mYes) (el := mL (mLc (gNm 6) (mItems (mVar 0)) mYes (mBin gIx (mVar 6) (mVar 5)) [6])) (vs := [5]) (e := [.sh (dR rows), e1, e2, e3, e4, .no, .no, e7, e8, e9, e10, e11, e12, e13])
    (fun i : Nat => D.int (i : Nat)) (fun i => dI (colAt rows i)) (List.range w) fun i hi => by
      simp [stepLc, hz2, key i (List.mem_range.mp hi)]
  have e6 : colsOf rows w = (List.range w).map (colAt rows) := rfl
  rw [e6, List.map_map]
  exact lc_at hr (by rw [List.length_map, List.length_range]; exact hz) (by simp) k2 (by simp)

def lcN : MA := mLc (gNm 3) (mItems (mVar 1)) (mB (mBin gLt (mVar 3) (mC (.int 0)))) (mVar 3) [3]
theorem lcN_is (ls : List Int) (e0 e2 e4 e5 e6 e7 e8 e9 e10 e11 e12 e13 : Cell) (hz : ls.length ≤ 1000) : lcN [e0, .sh (dI ls), e2, .no, e4, e5, e6, e7, e8, e9, e10, e11, e12, e13] =
    .ok ((ls.filter fun x => decide (x < 0)).map D.int) [e0, .sh (dI ls), e2, .no, e4, e5, e6, e7, e8, e9, e10, e11, e12, e13] := by
  have k2 := runLc_fmF (g := gNm 3) (t := mB (mBin gLt (mVar 3) (mC (.int 0)))) (el := mVar 3) (vs := [3]) (e := [e0, .sh (dI ls), e2, .no, e4, e5, e6, e7, e8, e9, e10, e11, e12, e13]) D.int (fun x => if x < 0 then some (D.int x) else none) ls fun x _ => by
    by_cases h : x < 0
    · simp [stepLc, h]
    · simp [stepLc, h]
  have e5 : ls.filterMap (fun x => if x < 0 then some (D.int x) else none) = (ls.filter fun x => decide (x < 0)).map D.int := by
    clear k2 hz
    induction ls with
    | nil => rfl
    | cons x xs ih =>
      rw [List.filterMap_cons, List.filter_cons, ih]
      by_cases h : x < 0
      · simp [h]
      · simp [h]
  rw [e5] at k2
  exact lc_at rfl (by rw [List.length_map, sizeLine_eq]; omega) rfl k2 rfl
def anyNeg (ls : List Int) : Bool := !(ls.filter fun x => decide (x < 0)).isEmpty
theorem m_choices_eq (fc : List D → FR) : m_choices fc fMP = sSeq (sDrop (mCall 1 fc (mCons (mVar 0) mNil))) (sSeq (sIf (mB (mBin gNe (mL lcN) (mL (mCB gLst mNil)))) (sRetO (mCB gLst mNil)) sNx) (sSeq (sSetO 4 lcC) (sSeq (sSetO 7 (mCB gLst mNil))
  (sSeq (sSetO 8 (mCB gLst (mCons (mCB gTup (mCons (mL (mCB gLst mNil)) (mCons (mL (mCB gList (mCons (mVar 1) mNil))) mNil))) mNil))) (sSeq (sWhile wT wB) (sRetV 7)))))) := rfl
theorem neg_test (ls : List Int) (e0 e2 : Cell) (hz : ls.length ≤ 1000) : mB (mBin gNe (mL lcN) (mL (mCB gLst mNil))) [e0, .sh (dI ls), e2, .no, .no, .no, .no, .no, .no, .no, .no, .no, .no, .no] = .ok (anyNeg ls) [e0, .sh (dI ls), e2, .no, .no, .no, .no, .no, .no, .no, .no, .no, .no, .no] := by
  simp [lcN_is ls _ _ _ _ _ _ _ _ _ _ _ _ hz, anyNeg]
variable {rows : List (List Int)} {due : List Int} {most : Int} {fc : List D → FR}
theorem ch_exc {x : Exc} (hc : fc [dR rows] = .exc x) : frun 14 (m_choices fc fMP) [dR rows, dI due, .int most] = .exc x := by
  rw [m_choices_eq]
  simp [frun, env0, hc]
theorem ch_neg (hc : fc [dR rows] = .sh .non) (hz : due.length ≤ 1000) (hn : anyNeg due = true) : frun 14 (m_choices fc fMP) [dR rows, dI due, .int most] = .ow [] := by
  rw [m_choices_eq]
  have h1 : sDrop (mCall 1 fc (mCons (mVar 0) mNil)) (env0 14 [dR rows, dI due, .int most]) = .nx (env0 14 [dR rows, dI due, .int most]) := by simp [env0, hc]
  have h2 : sIf (mB (mBin gNe (mL lcN) (mL (mCB gLst mNil)))) (sRetO (mCB gLst mNil)) sNx (env0 14 [dR rows, dI due, .int most]) = .rt (.ow []) (env0 14 [dR rows, dI due, .int most]) := by
    refine (if_at (neg_test due _ _ hz)).trans ?_
    rw [hn]
    simp [env0]
  unfold frun
  rw [sSeq_nx h1, sSeq_no h2 (fun _ => by simp)]
  rfl
theorem ch_go {w h M B : Nat} (hc : fc [dR rows] = .sh .non) (hr : Rect rows w) (hz : due.length ≤ 1000) (hn : anyNeg due = false) (hh : h ≤ 1000) (hM : M ≤ 100000) (hg : Good h M (colsOf rows w) due) (hw : w * (M + 1) + 1 ≤ sizeLine) (hB : nd M w ≤ B) (hB2 : B < fuel) (hm0 : 0 ≤ most) (hms : most < (sizeLine : Nat)) :
    frun 14 (m_choices fc fMP) [dR rows, dI due, .int most] = if (((sols (colsOf rows w) due).length : Nat) : Int) ≤ most then .ow ((sols (colsOf rows w) due).map dI) else .exc ⟨"TooMany", []⟩ := by
  rw [m_choices_eq]
  have h1 : sDrop (mCall 1 fc (mCons (mVar 0) mNil)) (env0 14 [dR rows, dI due, .int most]) = .nx (env0 14 [dR rows, dI due, .int most]) := by simp [env0, hc]
  have h2 : sIf (mB (mBin gNe (mL lcN) (mL (mCB gLst mNil)))) (sRetO (mCB gLst mNil)) sNx (env0 14 [dR rows, dI due, .int most]) = .nx (env0 14 [dR rows, dI due, .int most]) := by
    refine (if_at (neg_test due _ _ hz)).trans ?_
    rw [hn]
    rfl
  have h3 : sSetO 4 lcC (env0 14 [dR rows, dI due, .int most]) = .nx [.sh (dR rows), .sh (dI due), .sh (.int most), .no, .ow ((colsOf rows w).map dI), .no, .no, .no, .no, .no, .no, .no, .no, .no] := (setO_at (lcC_is hr _ _ _ _ _ _ _ _ _ _ _)).trans rfl
  have h4 : sSetO 7 (mCB gLst mNil) [.sh (dR rows), .sh (dI due), .sh (.int most), .no, .ow ((colsOf rows w).map dI), .no, .no, .no, .no, .no, .no, .no, .no, .no] =
    .nx [.sh (dR rows), .sh (dI due), .sh (.int most), .no, .ow ((colsOf rows w).map dI), .no, .no, .ow [], .no, .no, .no, .no, .no, .no] := by simp
  have hz1 : (1 : Nat) ≤ sizeLine := by rw [sizeLine_eq]; omega
  have hz2 : (2 : Nat) ≤ sizeLine := by rw [sizeLine_eq]; omega
  have h5 : sSetO 8 (mCB gLst (mCons (mCB gTup (mCons (mL (mCB gLst mNil)) (mCons (mL (mCB gList (mCons (mVar 1) mNil))) mNil))) mNil)) [.sh (dR rows), .sh (dI due), .sh (.int most), .no, .ow ((colsOf rows w).map dI), .no, .no, .ow [], .no, .no, .no, .no, .no, .no] =
    .nx [.sh (dR rows), .sh (dI due), .sh (.int most), .no, .ow ((colsOf rows w).map dI), .no, .no, .ow [], .ow [.tup [.lst [], dI due]], .no, .no, .no, .no, .no] := by simp [hz1, hz2]
  unfold frun
  rw [sSeq_nx h1, sSeq_nx h2, sSeq_nx h3, sSeq_nx h4, sSeq_nx h5]
  have R : Rc (dR rows) (dI due) most (colsOf rows w) [] ([] ++ [([], due)]) [.sh (dR rows), .sh (dI due), .sh (.int most), .no, .ow ((colsOf rows w).map dI), .no, .no, .ow [], .ow [.tup [.lst [], dI due]], .no, .no, .no, .no, .no] := ⟨_, _, _, _, _, _, rfl, rfl⟩
  have hcl : (colsOf rows w).length = w := by simp [colsOf]
  have G := goes_tree hh hM (Nat.le_trans (Nat.le_of_eq hcl) hr.2.2.1) hms (colsOf rows w) [] due [] [] _ rfl (Nat.zero_le _) hg (by have e := hw; rw [← hcl] at e; simpa using e) (by simpa using hm0) R
  rw [hcl] at G
  have e0 : (sols (colsOf rows w) due).map (([] : List Int) ++ ·) = sols (colsOf rows w) due := by simp
  rw [e0] at G
  by_cases hq : (((sols (colsOf rows w) due).length : Nat) : Int) ≤ most
  · rw [if_pos hq]
    obtain ⟨m, e', hm, R', r⟩ := G.1 (by simpa using hq)
    have hf : fuel = m + ((fuel - m - 1) + 1) := by omega
    have hwx : sWhile wT wB [.sh (dR rows), .sh (dI due), .sh (.int most), .no, .ow ((colsOf rows w).map dI), .no, .no, .ow [], .ow [.tup [.lst [], dI due]], .no, .no, .no, .no, .no] = .nx e' := by
      show run fuel _ = _
      rw [hf, r]
      show (wT e').so _ = _
      rw [wT_is R']
      rfl
    rw [sSeq_nx hwx]
    obtain ⟨c4, c9, c10, c11, c12, c13, h4, rfl⟩ := R'
    simp
  · rw [if_neg hq]
    obtain ⟨m, e', hm, r⟩ := G.2 (by simp; omega)
    have hf : fuel = m + (fuel - m) := by omega
    have hwx : sWhile wT wB [.sh (dR rows), .sh (dI due), .sh (.int most), .no, .ow ((colsOf rows w).map dI), .no, .no, .ow [], .ow [.tup [.lst [], dI due]], .no, .no, .no, .no, .no] = .exc ⟨"TooMany", []⟩ e' := by
      show run fuel _ = _
      rw [hf, r]
    rw [sSeq_no hwx (fun _ => by simp)]
    rfl
end K80
end

section
set_option Elab.async false
set_option linter.all false
set_option maxRecDepth 100000
set_option maxHeartbeats 2000000
namespace K80
open PySem PySem.Spec PyProof.Rows L2 Nm

/-! ### the draws -/
abbrev dF (ns : List Int) : D := .fz (ns.map D.int)
def isI : FR → Prop
  | .sh (.int _) => True
  | _ => False
@[simp] theorem isI_int (i : Int) : isI (.sh (.int i)) = True := rfl
theorem isI_ex {r : FR} (h : isI r) : ∃ c : Int, r = .sh (.int c) := by
  cases r with
  | sh d =>
    cases d with
    | int c => exact ⟨c, rfl⟩
    | _ => exact h.elim
  | _ => exact h.elim
theorem cell_is (ns : List Int) (k : Nat) (hk : k ≤ 1000) : ∃ c : Int, frun 3 m_law_cell [dF ns, .int k] = .sh (.int c) := by
  refine isI_ex ?_
  have hpow : cPow 10 9 = true := by decide
  have m1 : cMul 7 (k : Int) = true := mul_l (by decide)
  have m2 : ∀ x : Int, cMul 31 x = true := fun x => mul_l (by decide)
  have m3 : ∀ x : Int, cMul x 48271 = true := fun x => mul_r (by decide)
  have m4 : ∀ x : Int, cMul 69621 x = true := fun x => mul_l (by decide)
  have m5 : ∀ x : Int, cMul x 69621 = true := fun x => mul_r (by decide)
  have m6 : ∀ x : Int, cMul 48271 x = true := fun x => mul_l (by decide)
  have d1 : ∀ x : Int, cMod x 2147483647 = true := fun x => by first | exact mod_of (by decide) | exact div_of (by decide) (by decide)
  have d2 : ∀ x : Int, cMod x 2147483629 = true := fun x => by first | exact mod_of (by decide) | exact div_of (by decide) (by decide)
  have d3 : ∀ x : Int, cDiv x 1000 = true := fun x => by first | exact mod_of (by decide) | exact div_of (by decide) (by decide)
  by_cases h1 : k < ns.length
  · have hi : L2.atI (ns.map D.int) (k : Int) = some (.int ns[k]) := atI_nat (by rw [List.getElem?_map, List.getElem?_eq_getElem h1]; rfl)
    by_cases h2 : (10 : Int) ^ 9 ≤ ns[k]
    · simp [frun, m_law_cell, env0, h1, hi, hpow, show (1000000000 : Int) ≤ ns[k] by simpa using h2]
    · have h3 : 0 < ns.length := by omega
      have hmod : cMod (k : Int) (ns.length : Int) = true := mod_of (by omega)
      have hm2 : ((k : Int) % (ns.length : Int)) = ((k % ns.length : Nat) : Int) := by simp
      have h4 : k % ns.length < ns.length := Nat.mod_lt _ h3
      have hi2 : L2.atI (ns.map D.int) ((k % ns.length : Nat) : Int) = some (.int ns[k % ns.length]) := atI_nat (by rw [List.getElem?_map, List.getElem?_eq_getElem h4]; rfl)
      rw [← hm2] at hi2
      have h5 : ¬ ((1000000000 : Int) ≤ ns[k]) := by simpa using h2
      simp [frun, m_law_cell, env0, h1, hi, hpow, h5, m1, h3, hmod, hi2, m2, m3, m4, m5, m6, d1, d2, d3]
  · by_cases h3 : 0 < ns.length
    · have hmod : cMod (k : Int) (ns.length : Int) = true := mod_of (by omega)
      have hm2 : ((k : Int) % (ns.length : Int)) = ((k % ns.length : Nat) : Int) := by simp
      have h4 : k % ns.length < ns.length := Nat.mod_lt _ h3
      have hi2 : L2.atI (ns.map D.int) ((k % ns.length : Nat) : Int) = some (.int ns[k % ns.length]) := atI_nat (by rw [List.getElem?_map, List.getElem?_eq_getElem h4]; rfl)
      rw [← hm2] at hi2
      simp [frun, m_law_cell, env0, h1, m1, h3, hmod, hi2, m2, m3, m4, m5, m6, d1, d2, d3]
    · have h6 : ns = [] := by
        cases ns with
        | nil => rfl
        | cons => simp at h3
      subst h6
      simp [frun, m_law_cell, env0, show ¬ ((k : Int) < 0) by omega, m1, m2, m3, m4, m5, m6, d1, d2, d3]

/-- the draws' def, as the others call it -/
abbrev fC : List D → FR := frun 3 m_law_cell
theorem digits_step {ns : List Int} {at_ count base per : Nat} {acc : List Int} {i : Nat} {e : En} (hat : at_ ≤ 100) (hi : i ≤ 500) (hb : 0 < base) (hb2 : base ≤ 1000) (hp : 0 < per) (hp2 : per ≤ 12) (hacc : acc.length < sizeLine)
    (he : ∃ c c7, e = [.sh (dF ns), .sh (.int at_), .sh (.int count), .sh (.int base), .sh (.int per), .ow (acc.map D.int), .sh (.int c), c7]) :
    ∃ e2 d, stepFor (gNm 7) (sSeq (sIf (mB (mBin gEq (mBin gMod (mCB gInt (mCons (mVar 7) mNil)) (mVar 4)) (mC (.int 0)))) (sSet 6 (mCall 2 fC (mCons (mVar 0) (mCons (mBin gAdd (mVar 1) (mBin gDiv (mVar 7) (mVar 4))) mNil)))) sNx)
      (sSeq (sAppend 5 (mBin gMod (mCB gInt (mCons (mVar 6) mNil)) (mVar 3))) (sSet 6 (mCB gInt (mCons (mBin gDiv (mVar 6) (mVar 3)) mNil))))) (.int (i : Nat)) e = some e2 ∧ 0 ≤ d ∧ d < (base : Int) ∧
      ∃ c c7, e2 = [.sh (dF ns), .sh (.int at_), .sh (.int count), .sh (.int base), .sh (.int per), .ow ((acc ++ [d]).map D.int), .sh (.int c), c7] := by
  obtain ⟨c, c7, rfl⟩ := he
  have k1 : cMod (i : Int) (per : Int) = true := mod_of (by omega)
  have k2 : cDiv (i : Int) (per : Int) = true := div_of (by omega) (by omega)
  have k3 : ∀ x : Int, cMod x (base : Int) = true := fun x => by first | exact mod_of (by omega) | exact div_of (by omega) (by omega)
  have k4 : ∀ x : Int, cDiv x (base : Int) = true := fun x => by first | exact mod_of (by omega) | exact div_of (by omega) (by omega)
  have hq : ((at_ : Int) + (i : Int) / (per : Int)) = ((at_ + i / per : Nat) : Int) := by simp
  have hq2 : at_ + i / per ≤ 1000 := by
    have := Nat.div_le_self i per
    omega
  obtain ⟨c2, hc2⟩ := cell_is ns (at_ + i / per) hq2
  rw [← hq] at hc2
  by_cases hz : (i : Int) % (per : Int) = 0
  · refine ⟨[.sh (dF ns), .sh (.int at_), .sh (.int count), .sh (.int base), .sh (.int per), .ow ((acc ++ [c2 % (base : Int)]).map D.int), .sh (.int (c2 / (base : Int))), .sh (.int (i : Nat))], c2 % (base : Int), ?_, Int.emod_nonneg _ (by omega), Int.emod_lt_of_pos _ (by omega), _, _, rfl⟩
    simp [stepFor, k1, k2, k3, k4, hz, hc2, hacc]
  · refine ⟨[.sh (dF ns), .sh (.int at_), .sh (.int count), .sh (.int base), .sh (.int per), .ow ((acc ++ [c % (base : Int)]).map D.int), .sh (.int (c / (base : Int))), .sh (.int (i : Nat))], c % (base : Int), ?_, Int.emod_nonneg _ (by omega), Int.emod_lt_of_pos _ (by omega), _, _, rfl⟩
    simp [stepFor, k1, k3, k4, hz, hacc]

def bD : MS := sSeq (sIf (mB (mBin gEq (mBin gMod (mCB gInt (mCons (mVar 7) mNil)) (mVar 4)) (mC (.int 0)))) (sSet 6 (mCall 2 fC (mCons (mVar 0) (mCons (mBin gAdd (mVar 1) (mBin gDiv (mVar 7) (mVar 4))) mNil)))) sNx)
      (sSeq (sAppend 5 (mBin gMod (mCB gInt (mCons (mVar 6) mNil)) (mVar 3))) (sSet 6 (mCB gInt (mCons (mBin gDiv (mVar 6) (mVar 3)) mNil))))
def mPer : MS := sSeq (sSet 4 (mC (.int 4)))
  (sSeq (sIf (mB (mBin gLe (mVar 3) (mC (.int 31)))) (sSet 4 (mC (.int 6))) sNx)
  (sSeq (sIf (mB (mBin gLe (mVar 3) (mC (.int 9)))) (sSet 4 (mC (.int 9))) sNx)
  (sIf (mB (mBin gLe (mVar 3) (mC (.int 5)))) (sSet 4 (mC (.int 12))) sNx)))
theorem m_digits_eq : m_law_digits fC = sSeq (sSet 4 (mC (.int 4)))
  (sSeq (sIf (mB (mBin gLe (mVar 3) (mC (.int 31)))) (sSet 4 (mC (.int 6))) sNx)
  (sSeq (sIf (mB (mBin gLe (mVar 3) (mC (.int 9)))) (sSet 4 (mC (.int 9))) sNx)
  (sSeq (sIf (mB (mBin gLe (mVar 3) (mC (.int 5)))) (sSet 4 (mC (.int 12))) sNx)
  (sSeq (sSetO 5 (mCB gLst mNil)) (sSeq (sSet 6 (mC (.int 0))) (sSeq (sFor (gNm 7) (mRng1 (mCons (mVar 2) mNil)) bD) (sRetV 5))))))) := rfl
theorem digits_is (ns : List Int) {at_ count base : Nat} (hat : at_ ≤ 100) (hc : count ≤ 500) (hb : 0 < base) (hb2 : base ≤ 1000) :
    ∃ ds : List Int, frun 8 (m_law_digits fC) [dF ns, .int at_, .int count, .int base] = .ow (ds.map D.int) ∧ ds.length = count ∧ ∀ d ∈ ds, 0 ≤ d ∧ d < (base : Int) := by
  rw [m_digits_eq]
  have hper : ∃ per : Nat, 0 < per ∧ per ≤ 12 ∧ ∀ m : MS, sSeq (sSet 4 (mC (.int 4))) (sSeq (sIf (mB (mBin gLe (mVar 3) (mC (.int 31)))) (sSet 4 (mC (.int 6))) sNx) (sSeq (sIf (mB (mBin gLe (mVar 3) (mC (.int 9)))) (sSet 4 (mC (.int 9))) sNx)
      (sSeq (sIf (mB (mBin gLe (mVar 3) (mC (.int 5)))) (sSet 4 (mC (.int 12))) sNx) m))) (env0 8 [dF ns, .int at_, .int count, .int base]) = m [.sh (dF ns), .sh (.int at_), .sh (.int count), .sh (.int base), .sh (.int per), .no, .no, .no] := by
    by_cases h1 : (base : Int) ≤ 5
    · exact ⟨12, by omega, by omega, fun m => by simp [env0, h1, show (base : Int) ≤ 9 by omega, show (base : Int) ≤ 31 by omega]⟩
    · by_cases h2 : (base : Int) ≤ 9
      · exact ⟨9, by omega, by omega, fun m => by simp [env0, h1, h2, show (base : Int) ≤ 31 by omega]⟩
      · by_cases h3 : (base : Int) ≤ 31
        · exact ⟨6, by omega, by omega, fun m => by simp [env0, h1, h2, h3]⟩
        · exact ⟨4, by omega, by omega, fun m => by simp [env0, h1, h2, h3]⟩
  obtain ⟨per, p1, p2, hm⟩ := hper
  have L := runFor_inv (g := gNm 7) (b := bD) (fun i : Nat => D.int (i : Nat)) (fun k e => ∃ acc : List Int, acc.length = k ∧ (∀ d ∈ acc, 0 ≤ d ∧ d < (base : Int)) ∧
      ∃ c c7, e = [.sh (dF ns), .sh (.int at_), .sh (.int count), .sh (.int base), .sh (.int per), .ow (acc.map D.int), .sh (.int c), c7]) (List.range count) 0
    [.sh (dF ns), .sh (.int at_), .sh (.int count), .sh (.int base), .sh (.int per), .ow [], .sh (.int 0), .no] (fun i e x hx ⟨acc, a1, a2, a3⟩ => by
      have hi : i < count := by
        have := (List.getElem?_eq_some_iff.mp hx).1
        simpa using this
      have hxi : x = i := by
        rw [List.getElem?_range hi] at hx
        exact (Option.some.inj hx).symm
      subst hxi
      obtain ⟨e2, d, s1, s2, s3, s4⟩ := digits_step (ns := ns) (acc := acc) hat (show x ≤ 500 by omega) hb hb2 p1 p2 (by rw [a1, sizeLine_eq]; omega) a3
      refine ⟨e2, s1, acc ++ [d], by rw [List.length_append, a1]; rfl, fun y hy => ?_, s4⟩
      rcases List.mem_append.mp hy with hy | hy
      · exact a2 y hy
      · rw [List.mem_singleton.mp hy]
        exact ⟨s2, s3⟩) ⟨[], rfl, (fun _ h => nomatch h), 0, .no, rfl⟩
  obtain ⟨e', l1, acc, l2, l3, c, c7, rfl⟩ := L
  refine ⟨acc, ?_, by simpa using l2, l3⟩
  unfold frun
  rw [hm]
  have hr : mRng1 (mCons (mVar 2) mNil) [.sh (dF ns), .sh (.int at_), .sh (.int count), .sh (.int base), .sh (.int per), .ow [], .sh (.int 0), .no] = .ok ((List.range count).map fun i : Nat => D.int (i : Nat)) [.sh (dF ns), .sh (.int at_), .sh (.int count), .sh (.int base), .sh (.int per), .ow [], .sh (.int 0), .no] :=
    rngN_at rfl (by omega)
  have h5 : sSetO 5 (mCB gLst mNil) [.sh (dF ns), .sh (.int at_), .sh (.int count), .sh (.int base), .sh (.int per), .no, .no, .no] = .nx [.sh (dF ns), .sh (.int at_), .sh (.int count), .sh (.int base), .sh (.int per), .ow [], .no, .no] := by simp
  have h6 : sSet 6 (mC (.int 0)) [.sh (dF ns), .sh (.int at_), .sh (.int count), .sh (.int base), .sh (.int per), .ow [], .no, .no] = .nx [.sh (dF ns), .sh (.int at_), .sh (.int count), .sh (.int base), .sh (.int per), .ow [], .sh (.int 0), .no] := by simp
  rw [sSeq_nx h5, sSeq_nx h6, sSeq_nx ((for_at hr).trans l1)]
  simp
end K80
end

section
set_option Elab.async false
set_option linter.all false
set_option maxRecDepth 100000
set_option maxHeartbeats 2000000
namespace K80
open PySem PySem.Spec PyProof.Rows L2 Nm

/-! ### the totals -/
def dot (r v : List Int) : Int := ((List.range r.length).map fun i => r.getD i 0 * v.getD i 0).sum
def tot (rows : List (List Int)) (v : List Int) : List Int := rows.map fun r => dot r v
theorem pairs_ints (r : List Int) : pairs (r.map D.int) = (List.range r.length).map fun i : Nat => D.tup [.int (i : Nat), .int (r.getD i 0)] := by
  unfold pairs
  rw [List.length_map]
  refine map_ext fun i hi => ?_
  have hi' : i < r.length := List.mem_range.mp hi
  simp [hi']
theorem totals_is {rows : List (List Int)} {v : List Int} (hz : rows.length ≤ 1000) (hr : ∀ r ∈ rows, r.length = v.length ∧ ∀ y ∈ r, 0 ≤ y ∧ y ≤ 1000) (hv : v.length ≤ 1000) : frun 5 m_totals [dR rows, dI v] = .ow ((tot rows v).map D.int) := by
  have key : ∀ r ∈ rows, runLc (gTp 2 (gCons (gNm 3) (gCons (gNm 4) gNil))) mYes (mBin gMul (mVar 4) (mBin gIx (mVar 1) (mVar 3))) [3, 4] (pairs (r.map D.int)) [.sh (dR rows), .sh (dI v), .sh (dI r), .no, .no] =
      .ok (((List.range r.length).map fun i => r.getD i 0 * v.getD i 0).map D.int) [.sh (dR rows), .sh (dI v), .sh (dI r), .no, .no] := fun r h => by
    obtain ⟨h1, h2⟩ := hr r h
    rw [pairs_ints, List.map_map]
    refine runLc_mapF _ _ _ fun i hi => ?_
    have hi' : i < r.length := List.mem_range.mp hi
    have hi2 : i < v.length := by omega
    have hm : cMul r[i] v[i] = true := mul_l (by have := h2 _ (List.getElem_mem hi'); omega)
    simp [stepLc, hi', hi2, L2.atI, ixN, hm]
  have k2 := runLc_mapF (g := gNm 2) (t := mYes) (el := mCB gSum (mCons (mL (mLc (gTp 2 (gCons (gNm 3) (gCons (gNm 4) gNil))) (mEnum (mCons (mVar 2) mNil)) mYes (mBin gMul (mVar 4) (mBin gIx (mVar 1) (mVar 3))) [3, 4])) mNil)) (vs := [2])
    (e := [.sh (dR rows), .sh (dI v), .no, .no, .no]) dI (fun r => D.int (dot r v)) rows fun r h => by
      have hs : r.length ≤ sizeLine := by have := (hr r h).1; rw [sizeLine_eq]; omega
      simp [stepLc, hs, key r h, gSum, gOfInts, dot, -List.map_map]
  have hl := lc_at (g := gNm 2) (mi := mItems (mVar 0)) (vs := [2]) (env := [.sh (dR rows), .sh (dI v), .no, .no, .no]) (e5 := [.sh (dR rows), .sh (dI v), .no, .no, .no]) rfl (by rw [List.length_map, sizeLine_eq]; omega) rfl k2 rfl
  unfold frun m_totals sRetO
  rw [show env0 5 [dR rows, dI v] = [.sh (dR rows), .sh (dI v), .no, .no, .no] from rfl, hl]
  simp [tot]

theorem law_totals_is {rows : List (List Int)} {v : List Int} (hz : rows.length ≤ 1000) (hr : ∀ r ∈ rows, r.length = v.length ∧ ∀ y ∈ r, 0 ≤ y ∧ y ≤ 1000) (hv : v.length ≤ 1000) : frun 4 m_law_totals [dR rows, dI v] = .ow ((tot rows v).map D.int) := by
  have key : ∀ r ∈ rows, runLc (gNm 3) mYes (mBin gMul (mBin gIx (mVar 2) (mVar 3)) (mBin gIx (mVar 1) (mVar 3))) [3] ((List.range r.length).map fun i : Nat => D.int (i : Nat)) [.sh (dR rows), .sh (dI v), .sh (dI r), .no] =
      .ok (((List.range r.length).map fun i => r.getD i 0 * v.getD i 0).map D.int) [.sh (dR rows), .sh (dI v), .sh (dI r), .no] := fun r h => by
    obtain ⟨h1, h2⟩ := hr r h
    rw [List.map_map]
    refine runLc_mapF _ _ _ fun i hi => ?_
    have hi' : i < r.length := List.mem_range.mp hi
    have hi2 : i < v.length := by omega
    have hm : cMul r[i] v[i] = true := mul_l (by have := h2 _ (List.getElem_mem hi'); omega)
    simp [stepLc, hi', hi2, L2.atI, ixN, hm]
  have inner : ∀ r ∈ rows, mLc (gNm 3) (mRng1 (mCons (mCB gLen (mCons (mVar 2) mNil)) mNil)) mYes (mBin gMul (mBin gIx (mVar 2) (mVar 3)) (mBin gIx (mVar 1) (mVar 3))) [3] [.sh (dR rows), .sh (dI v), .sh (dI r), .no] =
      .ok (((List.range r.length).map fun i => r.getD i 0 * v.getD i 0).map D.int) [.sh (dR rows), .sh (dI v), .sh (dI r), .no] := fun r h => by
    have hs : r.length ≤ 1000 := by have := (hr r h).1; omega
    exact lc_at (e := [.sh (dR rows), .sh (dI v), .sh (dI r), .no]) (rngN_at (n := r.length) (by simp) (by omega)) (by rw [List.length_map, List.length_range, sizeLine_eq]; omega) rfl (key r h) rfl
  have k2 := runLc_mapF (g := gNm 2) (t := mYes) (el := mCB gSum (mCons (mL (mLc (gNm 3) (mRng1 (mCons (mCB gLen (mCons (mVar 2) mNil)) mNil)) mYes (mBin gMul (mBin gIx (mVar 2) (mVar 3)) (mBin gIx (mVar 1) (mVar 3))) [3])) mNil)) (vs := [2])
    (e := [.sh (dR rows), .sh (dI v), .no, .no]) dI (fun r => D.int (dot r v)) rows fun r h => by
      have hl := inner r h
      simp [stepLc, -mLc, -mRng1, hl, gSum, gOfInts, dot, -List.map_map]
  have hl := lc_at (g := gNm 2) (mi := mItems (mVar 0)) (vs := [2]) (env := [.sh (dR rows), .sh (dI v), .no, .no]) (e5 := [.sh (dR rows), .sh (dI v), .no, .no]) rfl (by rw [List.length_map, sizeLine_eq]; omega) rfl k2 rfl
  unfold frun m_law_totals sRetO
  rw [show env0 4 [dR rows, dI v] = [.sh (dR rows), .sh (dI v), .no, .no] from rfl, hl]
  simp [tot]

/-! ### is_whole -/
theorem is_whole_is (ns : List Int) (hz : ns.length ≤ 1000) : frun 3 m_law_is_whole [.lst (ns.map D.int), .lst (ns.map D.int)] = .sh (.bl true) := by
  have key : runLc (gNm 2) (mOr (mNot (mB (mIsi isInt (mBin gIx (mVar 0) (mVar 2))))) (mOr (mB (mIsi isBool (mBin gIx (mVar 0) (mVar 2)))) (mB (mBin gNe (mBin gIx (mVar 0) (mVar 2)) (mBin gIx (mVar 1) (mVar 2)))))) (mVar 2) [2]
      ((List.range ns.length).map fun i : Nat => D.int (i : Nat)) [.sh (dI ns), .sh (dI ns), .no] = .ok ((List.range ns.length).filterMap fun _ => none) [.sh (dI ns), .sh (dI ns), .no] := by
    refine runLc_fmF _ (fun _ => none) _ fun i hi => ?_
    have hi' : i < ns.length := List.mem_range.mp hi
    simp [stepLc, hi', L2.atI, ixN, tyN, Nm.isInt, Nm.isBool]
  have e0 : (List.range ns.length).filterMap (fun _ => (none : Option D)) = [] := by
    induction List.range ns.length with
    | nil => rfl
    | cons x xs ih => rw [List.filterMap_cons, ih]
  rw [e0] at key
  have hl := lc_at (g := gNm 2) (mi := mRng1 (mCons (mCB gLen (mCons (mVar 1) mNil)) mNil)) (vs := [2]) (env := [.sh (dI ns), .sh (dI ns), .no]) (e := [.sh (dI ns), .sh (dI ns), .no]) (e5 := [.sh (dI ns), .sh (dI ns), .no]) (rngN_at (n := ns.length) (by simp) (by omega)) (by rw [List.length_map, List.length_range, sizeLine_eq]; omega) rfl key rfl
  simp [frun, m_law_is_whole, env0, -mLc, -mRng1, hl, tyN, Nm.isList]
end K80
end

section
set_option Elab.async false
set_option linter.all false
set_option maxRecDepth 100000
set_option maxHeartbeats 2000000
namespace K80
open PySem PySem.Spec PyProof.Rows L2 Nm

/-! ### _law_same of a thing and itself -/
def fS : Nat → List D → FR
  | 0 => fun _ => .bad
  | n + 1 => frun 3 (m_law_same (fS n))
def PD : Nat → D → Prop
  | 0, .non => True
  | 0, .bl _ => True
  | 0, .int _ => True
  | 0, .str s => okEq (.str s) = true
  | 0, _ => False
  | _ + 1, .non => True
  | _ + 1, .bl _ => True
  | _ + 1, .int _ => True
  | _ + 1, .str s => okEq (.str s) = true
  | n + 1, .lst l => l.length ≤ sizeLine ∧ ∀ x ∈ l, PD n x
  | n + 1, .tup l => l.length ≤ sizeLine ∧ ∀ x ∈ l, PD n x
  | _ + 1, .fz _ => False
theorem gEq_bl (b : Bool) : gEq (.bl b) (.bl b) = some (.bl true) := gEq_self (okN_bl b)
theorem same_flat (f : List D → FR) : ∀ d : D, (match d with
    | .non => True
    | .bl _ => True
    | .int _ => True
    | .str s => okEq (.str s) = true
    | _ => False) → frun 3 (m_law_same f) [d, d] = .sh (.bl true)
  | .non, _ => by simp [frun, m_law_same, env0, tyN, Nm.isList, Nm.isTuple]
  | .bl b, _ => by simp [frun, m_law_same, env0, tyN, Nm.isList, Nm.isTuple, Nm.isBool, gEq_bl]
  | .int i, _ => by simp [frun, m_law_same, env0, tyN, Nm.isList, Nm.isTuple, Nm.isBool, Nm.isStr, Nm.isInt]
  | .str s, h => by
    have h2 : gEq (.str s) (.str s) = some (.bl true) := by simp [gEq, show okEq (.str s) = true from h]
    simp [frun, m_law_same, env0, tyN, Nm.isList, Nm.isTuple, Nm.isBool, Nm.isStr, Nm.isInt, h2]
  | .lst _, h => h.elim
  | .tup _, h => h.elim
  | .fz _, h => h.elim
theorem none_all {α β : Type} : ∀ l : List α, l.filterMap (fun _ => (none : Option β)) = []
  | [] => rfl
  | x :: xs => by rw [List.filterMap_cons, none_all xs]
theorem same_seq (f : List D → FR) (d : D) (l : List D) (hd : d = .lst l ∨ d = .tup l) (hz : l.length ≤ sizeLine) (h : ∀ x ∈ l, f [x, x] = .sh (.bl true)) : frun 3 (m_law_same f) [d, d] = .sh (.bl true) := by
  have key : runLc (gNm 2) (mNot (mB (mCall 2 f (mCons (mBin gIx (mVar 0) (mVar 2)) (mCons (mBin gIx (mVar 1) (mVar 2)) mNil))))) (mVar 2) [2] ((List.range l.length).map fun i : Nat => D.int (i : Nat)) [.sh d, .sh d, .no] =
      .ok ((List.range l.length).filterMap fun _ => none) [.sh d, .sh d, .no] := by
    refine runLc_fmF _ (fun _ => none) _ fun i hi => ?_
    have hi' : i < l.length := List.mem_range.mp hi
    have h2 := h _ (List.getElem_mem hi')
    rcases hd with rfl | rfl <;> simp [stepLc, hi', L2.atI, ixN, h2]
  rw [none_all] at key
  have hz2 : l.length ≤ 1000000000 := by rw [sizeLine_eq] at hz; omega
  have hl := lc_at (g := gNm 2) (mi := mRng1 (mCons (mCB gLen (mCons (mVar 1) mNil)) mNil)) (vs := [2]) (env := [.sh d, .sh d, .no]) (e := [.sh d, .sh d, .no]) (e5 := [.sh d, .sh d, .no]) (rngN_at (n := l.length) (by rcases hd with rfl | rfl <;> simp) hz2) (by rw [List.length_map, List.length_range]; exact hz) rfl key rfl
  rcases hd with rfl | rfl <;> simp [frun, m_law_same, env0, tyN, Nm.isList, Nm.isTuple, -mLc, -mRng1, hl]
theorem same_self : ∀ (n : Nat) (d : D), PD n d → fS (n + 1) [d, d] = .sh (.bl true)
  | 0, d, h => same_flat _ d (by cases d <;> first | exact h | trivial)
  | n + 1, .non, _ => same_flat _ _ trivial
  | n + 1, .bl _, _ => same_flat _ _ trivial
  | n + 1, .int _, _ => same_flat _ _ trivial
  | n + 1, .str s, h => same_flat _ (.str s) h
  | n + 1, .lst l, h => same_seq _ _ l (.inl rfl) h.1 fun x hx => same_self n x (h.2 x hx)
  | n + 1, .tup l, h => same_seq _ _ l (.inr rfl) h.1 fun x hx => same_self n x (h.2 x hx)
theorem PD.up : ∀ {n : Nat} {d : D}, PD n d → PD (n + 1) d
  | 0, .non, _ => trivial
  | 0, .bl _, _ => trivial
  | 0, .int _, _ => trivial
  | 0, .str _, h => h
  | n + 1, .non, _ => trivial
  | n + 1, .bl _, _ => trivial
  | n + 1, .int _, _ => trivial
  | n + 1, .str _, h => h
  | n + 1, .lst l, h => ⟨h.1, fun x hx => PD.up (h.2 x hx)⟩
  | n + 1, .tup l, h => ⟨h.1, fun x hx => PD.up (h.2 x hx)⟩
theorem PD_int {n : Nat} (i : Int) : PD n (.int i) := by cases n <;> trivial
theorem PD_ints (ns : List Int) (hz : ns.length ≤ sizeLine) : PD 1 (dI ns) := ⟨by rw [List.length_map]; exact hz, fun x hx => by
  obtain ⟨i, _, rfl⟩ := List.mem_map.mp hx
  exact PD_int i⟩
theorem PD_rows (rows : List (List Int)) (hz : rows.length ≤ sizeLine) (h : ∀ r ∈ rows, r.length ≤ sizeLine) : PD 2 (dR rows) := ⟨by rw [List.length_map]; exact hz, fun x hx => by
  obtain ⟨r, hr, rfl⟩ := List.mem_map.mp hx
  exact PD_ints r (h r hr)⟩
end K80
end

section
set_option Elab.async false
set_option linter.all false
set_option maxRecDepth 100000
set_option maxHeartbeats 2000000
namespace K80
open PySem PySem.Spec PyProof.Rows L2 Nm

/-! ### _law_choices: its parts -/
def lfv (rows : List (List Int)) (due : List Int) (j : Nat) (v : List Int) : List Int := (List.range rows.length).map fun k => due.getD k 0 - ((List.range j).map fun i => (rows.getD k []).getD i 0 * v.getD i 0).sum
def lcI : MA := mLc (gNm 11) (mRng1 (mCons (mVar 4) mNil)) mYes (mBin gMul (mBin gIx (mBin gIx (mVar 0) (mVar 9)) (mVar 11)) (mBin gIx (mVar 6) (mVar 11))) [11]
def lcL : MA := mLc (gNm 9) (mRng1 (mCons (mCB gLen (mCons (mVar 0) mNil)) mNil)) mYes (mBin gSub (mBin gIx (mVar 1) (mVar 9)) (mCB gSum (mCons (mL lcI) mNil))) [9]
def lcQ : MA := mLc (gNm 9) (mRng1 (mCons (mCB gLen (mCons (mVar 0) mNil)) mNil)) (mB (mBin gGt (mBin gIx (mBin gIx (mVar 0) (mVar 9)) (mVar 4)) (mC (.int 0)))) (mBin gDiv (mBin gIx (mVar 7) (mVar 9)) (mBin gIx (mBin gIx (mVar 0) (mVar 9)) (mVar 4))) [9]
def lcX : MA := mLc (gNm 10) (mRng1 (mCons (mBin gAdd (mVar 8) (mC (.int 1))) mNil)) mYes (mL (mBin gCat (mVar 6) (mL (mCB gLst (mCons (mVar 10) mNil))))) [10]
def lcE : MA := mLc (gNm 9) (mRng1 (mCons (mCB gLen (mCons (mVar 0) mNil)) mNil)) (mB (mBin gNe (mBin gIx (mVar 7) (mVar 9)) (mBin gMul (mBin gIx (mBin gIx (mVar 0) (mVar 9)) (mVar 4)) (mVar 8)))) (mVar 9) [9]
def bV : MS := sSeq (sSetO 7 lcL) (sSeq (sFrz 7 (sSet 8 (mCB gMinL (mCons (mL lcQ) mNil))))
  (sIf (mB (mBin gLt (mVar 4) (mBin gSub (mVar 3) (mC (.int 1))))) (sFrz 5 (sSetO 5 (mBin gCat (mVar 5) (mL lcX)))) (sFrz 7 (sIf (mAnd (mB (mBin gGe (mVar 8) (mC (.int 0)))) (mB (mBin gEq (mL lcE) (mL (mCB gLst mNil))))) (sAppend 5 (mL (mBin gCat (mVar 6) (mL (mCB gLst (mCons (mVar 8) mNil)))))) sNx))))
def bJ : MS := sSeq (sSetO 5 (mCB gLst mNil)) (sSeq (sFor (gNm 6) (mItems (mVar 2)) bV) (sFrz 5 (sSet 2 (mVar 5))))
theorem m_law_choices_eq : m_law_choices = sSeq (sSet 2 (mL (mCB gLst (mCons (mL (mCB gLst mNil)) mNil)))) (sSeq (sSet 3 (mCB gLen (mCons (mBin gIx (mVar 0) (mC (.int 0))) mNil))) (sSeq (sFor (gNm 4) (mRng1 (mCons (mVar 3) mNil)) bJ) (sRet (mVar 2)))) := rfl
/-- the table is a table of small entries -/
structure Tab (rows : List (List Int)) (w : Nat) : Prop where
  rect : Rect rows w
  small : ∀ r ∈ rows, ∀ y ∈ r, 0 ≤ y ∧ y ≤ 1000
section
variable {rows : List (List Int)} {due v : List Int} {w j k : Nat} {c2 c3 c5 c7 c8 c10 : Cell}
theorem Tab.row (T : Tab rows w) (hk : k < rows.length) : rows[k].length = w := T.rect.2.2.2 _ (List.getElem_mem hk)
theorem Tab.ent (T : Tab rows w) (hk : k < rows.length) {i : Nat} (hi : i < rows[k].length) : 0 ≤ rows[k][i] ∧ rows[k][i] ≤ 1000 := T.small _ (List.getElem_mem hk) _ (List.getElem_mem hi)
theorem rngR {env : En} (h : env[0]? = some (.sh (dR rows))) (hz : rows.length ≤ 1000) : mRng1 (mCons (mCB gLen (mCons (mVar 0) mNil)) mNil) env = .ok ((List.range rows.length).map fun i : Nat => D.int (i : Nat)) env := by
  refine rngN_at ?_ (by omega)
  simp [h]
theorem lcI_is (T : Tab rows w) (hk : k < rows.length) (hj : j ≤ w) (hv : j ≤ v.length) : lcI [.sh (dR rows), .sh (dI due), c2, c3, .sh (.int (j : Nat)), c5, .sh (dI v), c7, c8, .sh (.int (k : Nat)), c10, .no] =
    .ok (((List.range j).map fun i => (rows.getD k []).getD i 0 * v.getD i 0).map D.int) [.sh (dR rows), .sh (dI due), c2, c3, .sh (.int (j : Nat)), c5, .sh (dI v), c7, c8, .sh (.int (k : Nat)), c10, .no] := by
  have hj2 : j ≤ 1000 := Nat.le_trans hj T.rect.2.2.1
  have hrow := T.row hk
  have k2 := runLc_mapF (g := gNm 11) (t := mYes) (el := mBin gMul (mBin gIx (mBin gIx (mVar 0) (mVar 9)) (mVar 11)) (mBin gIx (mVar 6) (mVar 11))) (vs := [11]) (e := [.sh (dR rows), .sh (dI due), c2, c3, .sh (.int (j : Nat)), c5, .sh (dI v), c7, c8, .sh (.int (k : Nat)), c10, .no])
    (fun i : Nat => D.int (i : Nat)) (fun i => D.int ((rows.getD k []).getD i 0 * v.getD i 0)) (List.range j) fun i hi => by
      have hi' : i < j := List.mem_range.mp hi
      have h1 : i < rows[k].length := by omega
      have h2 : i < v.length := by omega
      have hm : cMul rows[k][i] v[i] = true := mul_l (by have := T.ent hk h1; omega)
      simp [stepLc, L2.atI, ixN, hk, h1, h2, hm]
  rw [List.map_map]
  exact lc_at (rngN_at rfl (by omega)) (by rw [List.length_map, List.length_range, sizeLine_eq]; omega) rfl k2 rfl
theorem lcL_is (T : Tab rows w) (hd : rows.length ≤ due.length) (hj : j ≤ w) (hv : j ≤ v.length) : lcL [.sh (dR rows), .sh (dI due), c2, c3, .sh (.int (j : Nat)), c5, .sh (dI v), c7, c8, .no, c10, .no] =
    .ok ((lfv rows due j v).map D.int) [.sh (dR rows), .sh (dI due), c2, c3, .sh (.int (j : Nat)), c5, .sh (dI v), c7, c8, .no, c10, .no] := by
  have hh := T.rect.2.1
  have k2 := runLc_mapF (g := gNm 9) (t := mYes) (el := mBin gSub (mBin gIx (mVar 1) (mVar 9)) (mCB gSum (mCons (mL lcI) mNil))) (vs := [9]) (e := [.sh (dR rows), .sh (dI due), c2, c3, .sh (.int (j : Nat)), c5, .sh (dI v), c7, c8, .no, c10, .no])
    (fun i : Nat => D.int (i : Nat)) (fun k => D.int (due.getD k 0 - ((List.range j).map fun i => (rows.getD k []).getD i 0 * v.getD i 0).sum)) (List.range rows.length) fun i hi => by
      have hi' : i < rows.length := List.mem_range.mp hi
      have h2 : i < due.length := by omega
      have hl := lcI_is (due := due) (v := v) (c2 := c2) (c3 := c3) (c5 := c5) (c7 := c7) (c8 := c8) (c10 := c10) T hi' hj hv
      simp [stepLc, L2.atI, ixN, h2, hl, gSum, gOfInts, -List.map_map]
  unfold lfv
  rw [List.map_map]
  exact lc_at (rngR rfl hh) (by rw [List.length_map, List.length_range, sizeLine_eq]; omega) rfl k2 rfl
theorem lcQ_is {ls : List Int} (T : Tab rows w) (hl : rows.length ≤ ls.length) (hj : j < w) (c1 c6 c11 : Cell) : lcQ [.sh (dR rows), c1, c2, c3, .sh (.int (j : Nat)), c5, c6, .sh (dI ls), c8, .no, c10, c11] =
    .ok ((quots (colAt rows j) ls).map D.int) [.sh (dR rows), c1, c2, c3, .sh (.int (j : Nat)), c5, c6, .sh (dI ls), c8, .no, c10, c11] := by
  have hh := T.rect.2.1
  have k2 := runLc_fmF (g := gNm 9) (t := mB (mBin gGt (mBin gIx (mBin gIx (mVar 0) (mVar 9)) (mVar 4)) (mC (.int 0)))) (el := mBin gDiv (mBin gIx (mVar 7) (mVar 9)) (mBin gIx (mBin gIx (mVar 0) (mVar 9)) (mVar 4))) (vs := [9])
    (e := [.sh (dR rows), c1, c2, c3, .sh (.int (j : Nat)), c5, c6, .sh (dI ls), c8, .no, c10, c11])
    (fun i : Nat => D.int (i : Nat)) (fun k => (if 0 < (colAt rows j).getD k 0 then some (ls.getD k 0 / (colAt rows j).getD k 0) else none).map D.int) (List.range rows.length) fun i hi => by
      have hi' : i < rows.length := List.mem_range.mp hi
      have h2 : i < ls.length := by omega
      have h3 : j < rows[i].length := by rw [T.row hi']; exact hj
      have he := T.ent hi' h3
      by_cases h0 : 0 < rows[i][j]
      · have hdv : cDiv ls[i] rows[i][j] = true := div_of h0 (by omega)
        simp [stepLc, L2.atI, ixN, hi', h2, h3, h0, hdv, colAt]
      · simp [stepLc, L2.atI, ixN, hi', h2, h3, h0, colAt]
  have hc : (colAt rows j).length = rows.length := by simp [colAt]
  unfold quots
  rw [hc, List.map_filterMap]
  exact lc_at (rngR rfl hh) (by rw [List.length_map, List.length_range, sizeLine_eq]; omega) rfl k2 rfl
theorem lcX_is {m : Nat} (hv : v.length ≤ 1000) (hm : m ≤ 1000000) (c0 c1 c4 c9 c11 : Cell) : lcX [c0, c1, c2, c3, c4, c5, .sh (dI v), c7, .sh (.int (m : Nat)), c9, .no, c11] =
    .ok (((List.range (m + 1)).map fun x : Nat => v ++ [(x : Int)]).map dI) [c0, c1, c2, c3, c4, c5, .sh (dI v), c7, .sh (.int (m : Nat)), c9, .no, c11] := by
  have hz1 : (1 : Nat) ≤ sizeLine := by rw [sizeLine_eq]; omega
  have hz2 : v.length + 1 ≤ sizeLine := by rw [sizeLine_eq]; omega
  have k2 := runLc_mapF (g := gNm 10) (t := mYes) (el := mL (mBin gCat (mVar 6) (mL (mCB gLst (mCons (mVar 10) mNil))))) (vs := [10]) (e := [c0, c1, c2, c3, c4, c5, .sh (dI v), c7, .sh (.int (m : Nat)), c9, .no, c11])
    (fun i : Nat => D.int (i : Nat)) (fun x => dI (v ++ [(x : Int)])) (List.range (m + 1)) fun i hi => by
      simp [stepLc, hz1, hz2]
  rw [List.map_map]
  have hr : mRng1 (mCons (mBin gAdd (mVar 8) (mC (.int 1))) mNil) [c0, c1, c2, c3, c4, c5, .sh (dI v), c7, .sh (.int (m : Nat)), c9, .no, c11] = .ok ((List.range (m + 1)).map fun i : Nat => D.int (i : Nat)) [c0, c1, c2, c3, c4, c5, .sh (dI v), c7, .sh (.int (m : Nat)), c9, .no, c11] := by
    refine rngN_at ?_ (by omega)
    simp
  exact lc_at hr (by rw [List.length_map, List.length_range, sizeLine_eq]; omega) rfl k2 rfl
def eqB (c ls : List Int) (m : Nat) : Bool := ((List.range c.length).filter fun k => !(ls.getD k 0 == c.getD k 0 * (m : Int))).isEmpty
theorem lcE_is {ls : List Int} {m : Nat} (T : Tab rows w) (hl : rows.length ≤ ls.length) (hj : j < w) (c1 c6 c11 : Cell) : lcE [.sh (dR rows), c1, c2, c3, .sh (.int (j : Nat)), c5, c6, .sh (dI ls), .sh (.int (m : Nat)), .no, c10, c11] =
    .ok (((List.range rows.length).filter fun k => !(ls.getD k 0 == (colAt rows j).getD k 0 * (m : Int))).map fun i : Nat => D.int (i : Nat)) [.sh (dR rows), c1, c2, c3, .sh (.int (j : Nat)), c5, c6, .sh (dI ls), .sh (.int (m : Nat)), .no, c10, c11] := by
  have hh := T.rect.2.1
  have k2 := runLc_fmF (g := gNm 9) (t := mB (mBin gNe (mBin gIx (mVar 7) (mVar 9)) (mBin gMul (mBin gIx (mBin gIx (mVar 0) (mVar 9)) (mVar 4)) (mVar 8)))) (el := mVar 9) (vs := [9])
    (e := [.sh (dR rows), c1, c2, c3, .sh (.int (j : Nat)), c5, c6, .sh (dI ls), .sh (.int (m : Nat)), .no, c10, c11])
    (fun i : Nat => D.int (i : Nat)) (fun k => if ls.getD k 0 = (colAt rows j).getD k 0 * (m : Int) then none else some (D.int (k : Nat))) (List.range rows.length) fun i hi => by
      have hi' : i < rows.length := List.mem_range.mp hi
      have h2 : i < ls.length := by omega
      have h3 : j < rows[i].length := by rw [T.row hi']; exact hj
      have he := T.ent hi' h3
      have hm : cMul rows[i][j] (m : Int) = true := mul_l (by omega)
      by_cases h0 : ls[i] = rows[i][j] * (m : Int)
      · simp [stepLc, L2.atI, ixN, hi', h2, h3, hm, colAt, h0]
      · simp [stepLc, L2.atI, ixN, hi', h2, h3, hm, colAt, h0]
  have e5 : ∀ l : List Nat, l.filterMap (fun k => if ls.getD k 0 = (colAt rows j).getD k 0 * (m : Int) then none else some (D.int (k : Nat))) = (l.filter fun k => !(ls.getD k 0 == (colAt rows j).getD k 0 * (m : Int))).map fun i : Nat => D.int (i : Nat) := by
    intro l
    induction l with
    | nil => rfl
    | cons x xs ih =>
      rw [List.filterMap_cons, List.filter_cons, ih]
      by_cases h : ls.getD x 0 = (colAt rows j).getD x 0 * (m : Int)
      · rw [if_pos h, h]
        simp
      · rw [if_neg h, if_pos (by simpa using h)]
        rfl
  rw [e5] at k2
  exact lc_at (rngR rfl hh) (by rw [List.length_map, List.length_range, sizeLine_eq]; omega) rfl k2 rfl
end
end K80
end

section
set_option Elab.async false
set_option linter.all false
set_option maxRecDepth 100000
set_option maxHeartbeats 2000000
namespace K80
open PySem PySem.Spec PyProof.Rows L2 Nm

/-! ### _law_choices: its loops -/
section
variable {rows : List (List Int)} {due v : List Int} {w j : Nat} {F longer : List (List Int)} {e : En}
def Rv (rows : List (List Int)) (due : List Int) (w j : Nat) (F longer : List (List Int)) (e : En) : Prop :=
  ∃ c6 c7 c8, e = [.sh (dR rows), .sh (dI due), .sh (dR F), .sh (.int (w : Nat)), .sh (.int (j : Nat)), .ow (longer.map dI), c6, c7, c8, .no, .no, .no]
/-- what a vector is made longer by -/
def more (rows : List (List Int)) (due : List Int) (w j : Nat) (v : List Int) : List (List Int) :=
  if j + 1 < w then (List.range (mpN (colAt rows j) (lfv rows due j v) + 1)).map fun x : Nat => v ++ [(x : Int)]
  else if eqB (colAt rows j) (lfv rows due j v) (mpN (colAt rows j) (lfv rows due j v)) = true then [v ++ [(mpN (colAt rows j) (lfv rows due j v) : Int)]] else []
theorem lfv_len (rows : List (List Int)) (due : List Int) (j : Nat) (v : List Int) : (lfv rows due j v).length = rows.length := by simp [lfv]
theorem vec_step (T : Tab rows w) (hd : rows.length ≤ due.length) (hj : j < w) (hv : v.length = j) (hm : lmin (quots (colAt rows j) (lfv rows due j v)) = some (mpN (colAt rows j) (lfv rows due j v) : Int)) (hm2 : mpN (colAt rows j) (lfv rows due j v) ≤ 1000000)
    (hs : longer.length + (more rows due w j v).length ≤ sizeLine) (R : Rv rows due w j F longer e) : ∃ e2, stepFor (gNm 6) bV (dI v) e = some e2 ∧ Rv rows due w j F (longer ++ more rows due w j v) e2 := by
  obtain ⟨c6, c7, c8, rfl⟩ := R
  have hw := T.rect.2.2.1
  have hlen := lfv_len rows due j v
  -- left
  have h1 : sSetO 7 lcL [.sh (dR rows), .sh (dI due), .sh (dR F), .sh (.int (w : Nat)), .sh (.int (j : Nat)), .ow (longer.map dI), .sh (dI v), c7, c8, .no, .no, .no] =
      .nx [.sh (dR rows), .sh (dI due), .sh (dR F), .sh (.int (w : Nat)), .sh (.int (j : Nat)), .ow (longer.map dI), .sh (dI v), .ow ((lfv rows due j v).map D.int), c8, .no, .no, .no] :=
    (setO_at (lcL_is T hd (Nat.le_of_lt hj) (by omega))).trans rfl
  -- room
  have hq := lcQ_is (ls := lfv rows due j v) (c2 := .sh (dR F)) (c3 := .sh (.int (w : Nat))) (c5 := .ow (longer.map dI)) (c8 := c8) (c10 := .no) T (by omega) hj (.sh (dI due)) (.sh (dI v)) .no
  have h2 : sFrz 7 (sSet 8 (mCB gMinL (mCons (mL lcQ) mNil))) [.sh (dR rows), .sh (dI due), .sh (dR F), .sh (.int (w : Nat)), .sh (.int (j : Nat)), .ow (longer.map dI), .sh (dI v), .ow ((lfv rows due j v).map D.int), c8, .no, .no, .no] =
      .nx [.sh (dR rows), .sh (dI due), .sh (dR F), .sh (.int (w : Nat)), .sh (.int (j : Nat)), .ow (longer.map dI), .sh (dI v), .sh (dI (lfv rows due j v)), .sh (.int (mpN (colAt rows j) (lfv rows due j v))), .no, .no, .no] := by
    simp [hq, gMinL, gOfInts, hm]
  have h3 : ∃ c7, sIf (mB (mBin gLt (mVar 4) (mBin gSub (mVar 3) (mC (.int 1))))) (sFrz 5 (sSetO 5 (mBin gCat (mVar 5) (mL lcX)))) (sFrz 7 (sIf (mAnd (mB (mBin gGe (mVar 8) (mC (.int 0)))) (mB (mBin gEq (mL lcE) (mL (mCB gLst mNil))))) (sAppend 5 (mL (mBin gCat (mVar 6) (mL (mCB gLst (mCons (mVar 8) mNil)))))) sNx))
      [.sh (dR rows), .sh (dI due), .sh (dR F), .sh (.int (w : Nat)), .sh (.int (j : Nat)), .ow (longer.map dI), .sh (dI v), .sh (dI (lfv rows due j v)), .sh (.int (mpN (colAt rows j) (lfv rows due j v))), .no, .no, .no] =
      .nx [.sh (dR rows), .sh (dI due), .sh (dR F), .sh (.int (w : Nat)), .sh (.int (j : Nat)), .ow ((longer ++ more rows due w j v).map dI), .sh (dI v), c7, .sh (.int (mpN (colAt rows j) (lfv rows due j v))), .no, .no, .no] := by
    by_cases hlast : j + 1 < w
    · have hx := lcX_is (v := v) (m := mpN (colAt rows j) (lfv rows due j v)) (c2 := .sh (dR F)) (c3 := .sh (.int (w : Nat))) (c5 := .sh (dR longer)) (c7 := .sh (dI (lfv rows due j v))) (by omega) hm2 (.sh (dR rows)) (.sh (dI due)) (.sh (.int (j : Nat))) .no .no
      have hmore : more rows due w j v = (List.range (mpN (colAt rows j) (lfv rows due j v) + 1)).map fun x : Nat => v ++ [(x : Int)] := by
        unfold more
        rw [if_pos hlast]
      rw [hmore] at hs ⊢
      have hsz : longer.length + (mpN (colAt rows j) (lfv rows due j v) + 1) ≤ sizeLine := by simpa using hs
      have hc : (j : Int) < (w : Int) - 1 := by omega
      refine ⟨.sh (dI (lfv rows due j v)), ?_⟩
      simp [hc, hx, hsz, -List.map_map]
    · have hE := lcE_is (ls := lfv rows due j v) (m := mpN (colAt rows j) (lfv rows due j v)) (c2 := .sh (dR F)) (c3 := .sh (.int (w : Nat))) (c5 := .ow (longer.map dI)) (c10 := .no) T (by omega) hj (.sh (dI due)) (.sh (dI v)) .no
      have hc : ¬ ((j : Int) < (w : Int) - 1) := by omega
      have hcl : (colAt rows j).length = rows.length := by simp [colAt]
      have e1 : ∀ l : List Nat, l.map (fun i : Nat => D.int (i : Nat)) = (l.map fun i : Nat => (i : Int)).map D.int := fun l => by rw [List.map_map]; rfl
      rw [e1] at hE
      have hz1 : (1 : Nat) ≤ sizeLine := by rw [sizeLine_eq]; omega
      have hz2 : v.length + 1 ≤ sizeLine := by rw [sizeLine_eq]; omega
      cases hb : eqB (colAt rows j) (lfv rows due j v) (mpN (colAt rows j) (lfv rows due j v)) with
      | true =>
        have hmore : more rows due w j v = [v ++ [(mpN (colAt rows j) (lfv rows due j v) : Int)]] := by
          unfold more
          rw [if_neg hlast, if_pos hb]
        rw [hmore] at hs ⊢
        have hsz : longer.length < sizeLine := by simp at hs; omega
        unfold eqB at hb
        rw [hcl] at hb
        refine ⟨.sh (dI (lfv rows due j v)), ?_⟩
        generalize ((List.range rows.length).filter fun k => !((lfv rows due j v).getD k 0 == (colAt rows j).getD k 0 * (mpN (colAt rows j) (lfv rows due j v) : Int))) = L at hE hb
        simp [hc, hE, hb, hsz, hz1, hz2, -List.map_map]
      | false =>
        have hmore : more rows due w j v = [] := by
          unfold more
          rw [if_neg hlast, if_neg (by rw [hb]; exact Bool.false_ne_true)]
        rw [hmore] at hs ⊢
        unfold eqB at hb
        rw [hcl] at hb
        refine ⟨.sh (dI (lfv rows due j v)), ?_⟩
        generalize ((List.range rows.length).filter fun k => !((lfv rows due j v).getD k 0 == (colAt rows j).getD k 0 * (mpN (colAt rows j) (lfv rows due j v) : Int))) = L at hE hb
        simp [hc, hE, hb, -List.map_map]
  obtain ⟨c7', h3⟩ := h3
  refine ⟨_, ?_, .sh (dI v), c7', .sh (.int (mpN (colAt rows j) (lfv rows due j v))), rfl⟩
  have hb : bV [.sh (dR rows), .sh (dI due), .sh (dR F), .sh (.int (w : Nat)), .sh (.int (j : Nat)), .ow (longer.map dI), .sh (dI v), c7, c8, .no, .no, .no] = _ := (sSeq_nx h1).trans ((sSeq_nx h2).trans h3)
  have hg : gNm 6 (dI v) [.sh (dR rows), .sh (dI due), .sh (dR F), .sh (.int (w : Nat)), .sh (.int (j : Nat)), .ow (longer.map dI), c6, c7, c8, .no, .no, .no] = some [.sh (dR rows), .sh (dI due), .sh (dR F), .sh (.int (w : Nat)), .sh (.int (j : Nat)), .ow (longer.map dI), .sh (dI v), c7, c8, .no, .no, .no] := rfl
  unfold stepFor
  rw [hg]
  dsimp only
  rw [hb]
end
end K80
end

section
set_option Elab.async false
set_option linter.all false
set_option maxRecDepth 100000
set_option maxHeartbeats 2000000
namespace K80
open PySem PySem.Spec PyProof.Rows L2 Nm

/-! ### _law_choices as a whole -/
section
variable {rows : List (List Int)} {due : List Int} {w j M : Nat} {F : List (List Int)} {e : En}
def VecOk (rows : List (List Int)) (due : List Int) (M j : Nat) (v : List Int) : Prop := v.length = j ∧ lmin (quots (colAt rows j) (lfv rows due j v)) = some (mpN (colAt rows j) (lfv rows due j v) : Int) ∧ mpN (colAt rows j) (lfv rows due j v) ≤ M
theorem take_flat {α β : Type} (f : α → List β) (l : List α) (i : Nat) (x : α) (h : l[i]? = some x) : ((l.take i).flatMap f).length + (f x).length ≤ (l.flatMap f).length ∧ (l.take (i + 1)).flatMap f = (l.take i).flatMap f ++ f x := by
  obtain ⟨hi, rfl⟩ := List.getElem?_eq_some_iff.mp h
  have e1 : l.take (i + 1) = l.take i ++ [l[i]] := (List.take_append_getElem hi).symm
  have e2 : (l.take (i + 1)).flatMap f = (l.take i).flatMap f ++ f l[i] := by
    rw [e1, List.flatMap_append]
    simp
  refine ⟨?_, e2⟩
  have e3 : l.flatMap f = (l.take (i + 1)).flatMap f ++ (l.drop (i + 1)).flatMap f := by
    rw [← List.flatMap_append, List.take_append_drop]
  rw [e3, e2, List.length_append, List.length_append]
  omega
theorem vecs (T : Tab rows w) (hd : rows.length ≤ due.length) (hj : j < w) (hM : M ≤ 1000000) (hF : ∀ v ∈ F, VecOk rows due M j v) (hs : (F.flatMap (more rows due w j)).length ≤ sizeLine) (R : Rv rows due w j F [] e) :
    ∃ e2, runFor (gNm 6) bV (F.map dI) e = .nx e2 ∧ Rv rows due w j F (F.flatMap (more rows due w j)) e2 := by
  obtain ⟨e2, h1, h2⟩ := runFor_inv (g := gNm 6) (b := bV) dI (fun k e => Rv rows due w j F ((F.take k).flatMap (more rows due w j)) e) F 0 e (fun i e v hv R => by
    rw [Nat.zero_add] at R ⊢
    obtain ⟨t1, t2⟩ := take_flat (more rows due w j) F i v hv
    obtain ⟨v1, v2, v3⟩ := hF v (List.mem_of_getElem? hv)
    obtain ⟨e2, s1, s2⟩ := vec_step T hd hj v1 v2 (by omega) (by omega) R
    exact ⟨e2, s1, by rw [t2]; exact s2⟩) R
  rw [Nat.zero_add, List.take_length] at h2
  exact ⟨e2, h1, h2⟩
def Ro (rows : List (List Int)) (due : List Int) (w : Nat) (F : List (List Int)) (e : En) : Prop :=
  ∃ c4 c5 c6 c7 c8, e = [.sh (dR rows), .sh (dI due), .sh (dR F), .sh (.int (w : Nat)), c4, c5, c6, c7, c8, .no, .no, .no]
theorem col_step (T : Tab rows w) (hd : rows.length ≤ due.length) (hj : j < w) (hM : M ≤ 1000000) (hF : ∀ v ∈ F, VecOk rows due M j v) (hs : (F.flatMap (more rows due w j)).length ≤ sizeLine) (R : Ro rows due w F e) :
    ∃ e2, stepFor (gNm 4) bJ (.int (j : Nat)) e = some e2 ∧ Ro rows due w (F.flatMap (more rows due w j)) e2 := by
  obtain ⟨c4, c5, c6, c7, c8, rfl⟩ := R
  obtain ⟨e2, h1, d6, d7, d8, rfl⟩ := vecs (e := [.sh (dR rows), .sh (dI due), .sh (dR F), .sh (.int (w : Nat)), .sh (.int (j : Nat)), .ow [], c6, c7, c8, .no, .no, .no]) T hd hj hM hF hs ⟨_, _, _, rfl⟩
  refine ⟨[.sh (dR rows), .sh (dI due), .sh (dR (F.flatMap (more rows due w j))), .sh (.int (w : Nat)), .sh (.int (j : Nat)), .sh (dR (F.flatMap (more rows due w j))), d6, d7, d8, .no, .no, .no], ?_, _, _, _, _, _, rfl⟩
  have hg : gNm 4 (.int (j : Nat)) [.sh (dR rows), .sh (dI due), .sh (dR F), .sh (.int (w : Nat)), c4, c5, c6, c7, c8, .no, .no, .no] = some [.sh (dR rows), .sh (dI due), .sh (dR F), .sh (.int (w : Nat)), .sh (.int (j : Nat)), c5, c6, c7, c8, .no, .no, .no] := rfl
  have h0 : sSetO 5 (mCB gLst mNil) [.sh (dR rows), .sh (dI due), .sh (dR F), .sh (.int (w : Nat)), .sh (.int (j : Nat)), c5, c6, c7, c8, .no, .no, .no] = .nx [.sh (dR rows), .sh (dI due), .sh (dR F), .sh (.int (w : Nat)), .sh (.int (j : Nat)), .ow [], c6, c7, c8, .no, .no, .no] := by simp
  have hi : mItems (mVar 2) [.sh (dR rows), .sh (dI due), .sh (dR F), .sh (.int (w : Nat)), .sh (.int (j : Nat)), .ow [], c6, c7, c8, .no, .no, .no] = .ok (F.map dI) [.sh (dR rows), .sh (dI due), .sh (dR F), .sh (.int (w : Nat)), .sh (.int (j : Nat)), .ow [], c6, c7, c8, .no, .no, .no] := rfl
  have hb : bJ [.sh (dR rows), .sh (dI due), .sh (dR F), .sh (.int (w : Nat)), .sh (.int (j : Nat)), c5, c6, c7, c8, .no, .no, .no] = .nx [.sh (dR rows), .sh (dI due), .sh (dR (F.flatMap (more rows due w j))), .sh (.int (w : Nat)), .sh (.int (j : Nat)), .sh (dR (F.flatMap (more rows due w j))), d6, d7, d8, .no, .no, .no] := by
    unfold bJ
    rw [sSeq_nx h0, sSeq_nx ((for_at hi).trans h1)]
    simp
  unfold stepFor
  rw [hg]
  dsimp only
  rw [hb]
def Fs (rows : List (List Int)) (due : List Int) (w : Nat) : Nat → List (List Int)
  | 0 => [[]]
  | j + 1 => (Fs rows due w j).flatMap (more rows due w j)
theorem law_choices_run (T : Tab rows w) (hd : rows.length ≤ due.length) (hM : M ≤ 1000000) (hF : ∀ j < w, ∀ v ∈ Fs rows due w j, VecOk rows due M j v) (hs : ∀ j ≤ w, (Fs rows due w j).length ≤ sizeLine) : frun 12 m_law_choices [dR rows, dI due] = .sh (dR (Fs rows due w w)) := by
  obtain ⟨e2, h1, c4, c5, c6, c7, c8, rfl⟩ := runFor_inv (g := gNm 4) (b := bJ) (fun i : Nat => D.int (i : Nat)) (fun k e => Ro rows due w (Fs rows due w k) e) (List.range w) 0
    [.sh (dR rows), .sh (dI due), .sh (dR [[]]), .sh (.int (w : Nat)), .no, .no, .no, .no, .no, .no, .no, .no] (fun i e x hx R => by
      have hi : i < w := by
        have := (List.getElem?_eq_some_iff.mp hx).1
        simpa using this
      have hxi : x = i := by
        rw [List.getElem?_range hi] at hx
        exact (Option.some.inj hx).symm
      subst hxi
      rw [Nat.zero_add] at R ⊢
      exact col_step T hd hi hM (hF x hi) (hs (x + 1) (by omega)) R) ⟨_, _, _, _, _, rfl⟩
  rw [Nat.zero_add, List.length_range] at *
  have hz1 : (1 : Nat) ≤ sizeLine := by rw [sizeLine_eq]; omega
  have h2 : sSet 2 (mL (mCB gLst (mCons (mL (mCB gLst mNil)) mNil))) (env0 12 [dR rows, dI due]) = .nx [.sh (dR rows), .sh (dI due), .sh (dR [[]]), .no, .no, .no, .no, .no, .no, .no, .no, .no] := by simp [env0, hz1]
  have h3 : sSet 3 (mCB gLen (mCons (mBin gIx (mVar 0) (mC (.int 0))) mNil)) [.sh (dR rows), .sh (dI due), .sh (dR [[]]), .no, .no, .no, .no, .no, .no, .no, .no, .no] = .nx [.sh (dR rows), .sh (dI due), .sh (dR [[]]), .sh (.int (w : Nat)), .no, .no, .no, .no, .no, .no, .no, .no] := by
    obtain ⟨r, rs, rfl, hw⟩ := at0 T.rect
    have hat : L2.atI ((r :: rs).map dI) 0 = some (dI r) := atI_nat (j := 0) rfl
    simp at hat
    simp [hat, hw]
  have hi : mRng1 (mCons (mVar 3) mNil) [.sh (dR rows), .sh (dI due), .sh (dR [[]]), .sh (.int (w : Nat)), .no, .no, .no, .no, .no, .no, .no, .no] = .ok ((List.range w).map fun i : Nat => D.int (i : Nat)) [.sh (dR rows), .sh (dI due), .sh (dR [[]]), .sh (.int (w : Nat)), .no, .no, .no, .no, .no, .no, .no, .no] :=
    rngN_at rfl (by have := T.rect.2.2.1; omega)
  rw [m_law_choices_eq]
  unfold frun
  rw [sSeq_nx h2, sSeq_nx h3, sSeq_nx ((for_at hi).trans h1)]
  rfl
end
end K80
end

section
set_option Elab.async false
set_option linter.all false
set_option maxRecDepth 100000
set_option maxHeartbeats 2000000
namespace K80
open PySem PySem.Spec PyProof.Rows L2 Nm

/-! ### the two lists of choices are one -/
section
variable {rows : List (List Int)} {due v : List Int} {w j M : Nat}
theorem getD_map_range {α : Type} [Inhabited α] (f : Nat → α) (n k : Nat) (d : α) (h : k < n) : ((List.range n).map f).getD k d = f k := by
  rw [List.getD_eq_getElem?_getD, List.getElem?_map, List.getElem?_range h]
  rfl
theorem flat_congr {α β : Type} {f g : α → List β} : ∀ {l : List α}, (∀ x ∈ l, f x = g x) → l.flatMap f = l.flatMap g
  | [], _ => rfl
  | x :: l, h => by rw [List.flatMap_cons, List.flatMap_cons, h x List.mem_cons_self, flat_congr fun y hy => h y (List.mem_cons_of_mem _ hy)]
theorem lfv_succ (hv : v.length = j) (x : Int) : lfv rows due (j + 1) (v ++ [x]) = sub (lfv rows due j v) (colAt rows j) x := by
  unfold sub
  rw [lfv_len]
  unfold lfv
  refine map_ext fun k hk => ?_
  have hk' : k < rows.length := List.mem_range.mp hk
  have e1 : ((List.range rows.length).map fun k => due.getD k 0 - ((List.range j).map fun i => (rows.getD k []).getD i 0 * v.getD i 0).sum).getD k 0 = due.getD k 0 - ((List.range j).map fun i => (rows.getD k []).getD i 0 * v.getD i 0).sum := getD_map_range _ _ _ _ hk'
  have e2 : (colAt rows j).getD k 0 = (rows.getD k []).getD j 0 := by
    unfold colAt
    rw [List.getD_eq_getElem?_getD, List.getElem?_map, List.getElem?_eq_getElem hk', List.getD_eq_getElem?_getD (l := rows), List.getElem?_eq_getElem hk']
    rfl
  rw [e1, e2, List.range_succ, List.map_append, List.sum_append]
  have e3 : (List.range j).map (fun i => (rows.getD k []).getD i 0 * (v ++ [x]).getD i 0) = (List.range j).map fun i => (rows.getD k []).getD i 0 * v.getD i 0 := map_ext fun i hi => by
    have hi' : i < v.length := by rw [hv]; exact List.mem_range.mp hi
    rw [List.getD_eq_getElem?_getD (l := v ++ [x]), List.getElem?_append_left hi', ← List.getD_eq_getElem?_getD]
  have e4 : (v ++ [x]).getD j 0 = x := by
    rw [List.getD_eq_getElem?_getD, List.getElem?_append_right (by omega), hv]
    simp
  rw [e3]
  simp only [List.map_cons, List.map_nil, List.sum_cons, List.sum_nil, e4]
  have e5 := Int.mul_comm ((rows.getD k []).getD j 0) x
  rw [e5]
  omega
theorem lfv_zero (hd : due.length = rows.length) : lfv rows due 0 [] = due := by
  unfold lfv
  refine List.ext_getElem (by simp [hd]) fun i h1 h2 => ?_
  simp [h2]
theorem cols_drop (hj : j < w) : (colsOf rows w).drop j = colAt rows j :: (colsOf rows w).drop (j + 1) := by
  have h : j < (colsOf rows w).length := by simp [colsOf]; exact hj
  rw [List.drop_eq_getElem_cons h]
  congr 1
  simp [colsOf]
theorem cols_end : (colsOf rows w).drop w = [] := List.drop_eq_nil_of_le (by simp [colsOf])
/-- the last column: one count at most -/
theorem sols_last {c ls : List Int} (hl : ls.length = c.length) (hm : lmin (quots c ls) = some (mpN c ls : Int)) : sols [c] ls = if eqB c ls (mpN c ls) = true then [[(mpN c ls : Int)]] else [] := by
  -- a count that leaves nothing is the room
  have hz : ∀ x : Nat, zeros (sub ls c x) = true ↔ ∀ k < c.length, ls.getD k 0 = (x : Int) * c.getD k 0 := fun x => by
    unfold zeros sub
    rw [List.all_eq_true, hl]
    constructor
    · intro h k hk
      have := h (ls.getD k 0 - x * c.getD k 0) (List.mem_map_of_mem (List.mem_range.mpr hk))
      have := of_decide_eq_true (p := ls.getD k 0 - x * c.getD k 0 = 0) (by simpa using this)
      omega
    · intro h y hy
      obtain ⟨k, hk, rfl⟩ := List.mem_map.mp hy
      rw [h k (List.mem_range.mp hk)]
      simp
  have he : eqB c ls (mpN c ls) = true ↔ ∀ k < c.length, ls.getD k 0 = (mpN c ls : Int) * c.getD k 0 := by
    unfold eqB
    rw [List.isEmpty_iff, List.filter_eq_nil_iff]
    constructor
    · intro h k hk
      have := h k (List.mem_range.mpr hk)
      simp only [Bool.not_eq_true, Bool.not_eq_false'] at this
      rw [eq_of_beq this, Int.mul_comm]
    · intro h k hk
      rw [h k (List.mem_range.mp hk), Int.mul_comm]
      simp
  have hone : ∀ x : Nat, zeros (sub ls c x) = true → x = mpN c ls := fun x h => by
    have h1 := (hz x).mp h
    obtain ⟨m1, _⟩ := lmin_spec hm
    unfold quots at m1
    obtain ⟨k, hk, e⟩ := List.mem_filterMap.mp m1
    split at e
    · rename_i hp
      have e2 := Option.some.inj e
      rw [h1 k (List.mem_range.mp hk), Int.mul_ediv_cancel _ (by omega)] at e2
      omega
    · cases e
  rw [sols_cons]
  cases hb : eqB c ls (mpN c ls) with
  | true =>
    have h0 : zeros (sub ls c (mpN c ls : Nat)) = true := (hz _).mpr (he.mp hb)
    have e1 : ∀ n : Nat, (List.range n).flatMap (fun x : Nat => (sols [] (sub ls c (x : Int))).map fun v => (x : Int) :: v) = if mpN c ls < n then [[(mpN c ls : Int)]] else [] := by
      intro n
      induction n with
      | zero => rfl
      | succ n ih =>
        rw [List.range_succ, List.flatMap_append, ih]
        by_cases h1 : mpN c ls < n
        · rw [if_pos h1, if_pos (by omega)]
          have h2 : zeros (sub ls c (n : Int)) = false := by
            cases q : zeros (sub ls c (n : Int)) with
            | false => rfl
            | true =>
              have := hone n q
              omega
          simp [sols, h2]
        · rw [if_neg h1]
          by_cases h2 : n = mpN c ls
          · rw [if_pos (by omega), h2]
            simp [sols, h0]
          · have h3 : zeros (sub ls c (n : Int)) = false := by
              cases q : zeros (sub ls c (n : Int)) with
              | false => rfl
              | true => exact absurd (hone n q) h2
            rw [if_neg (by omega)]
            simp [sols, h3]
    rw [e1, if_pos (by omega), if_pos rfl]
  | false =>
    rw [if_neg Bool.false_ne_true]
    refine List.flatMap_eq_nil_iff.mpr fun x _ => ?_
    have h3 : zeros (sub ls c (x : Int)) = false := by
      cases q : zeros (sub ls c (x : Int)) with
      | false => rfl
      | true =>
        have h1 := hone x q
        subst h1
        rw [he.mpr ((hz _).mp q)] at hb
        cases hb
    simp [sols, h3]
def InvF (rows : List (List Int)) (due : List Int) (w M j : Nat) : Prop :=
  (∀ v ∈ Fs rows due w j, v.length = j ∧ Good rows.length M ((colsOf rows w).drop j) (lfv rows due j v)) ∧
  (Fs rows due w j).flatMap (fun v => (sols ((colsOf rows w).drop j) (lfv rows due j v)).map (v ++ ·)) = sols (colsOf rows w) due ∧ (Fs rows due w j).length ≤ (M + 1) ^ j
theorem invF_zero (hd : due.length = rows.length) (hg : Good rows.length M (colsOf rows w) due) : InvF rows due w M 0 := by
  refine ⟨fun v hv => ?_, ?_, Nat.le_refl _⟩
  · rw [List.mem_singleton.mp hv, lfv_zero hd]
    exact ⟨rfl, hg⟩
  · simp [Fs, lfv_zero hd]
theorem flat_len {α β : Type} (f : α → List β) (n : Nat) : ∀ l : List α, (∀ x ∈ l, (f x).length ≤ n) → (l.flatMap f).length ≤ l.length * n
  | [], _ => by simp
  | x :: l, h => by
    have ih := flat_len f n l fun y hy => h y (List.mem_cons_of_mem _ hy)
    have h0 := h x List.mem_cons_self
    rw [List.flatMap_cons, List.length_append, List.length_cons, Nat.succ_mul]
    omega
theorem vecOk_of (hj : j < w) (hI : InvF rows due w M j) : ∀ v ∈ Fs rows due w j, VecOk rows due M j v := fun v hv => by
  obtain ⟨h1, h2⟩ := hI.1 v hv
  rw [cols_drop hj] at h2
  obtain ⟨_, _, _, h3, h4, _⟩ := h2
  exact ⟨h1, h3, h4⟩
theorem more_len (hj : j < w) (hI : InvF rows due w M j) : ∀ v ∈ Fs rows due w j, (more rows due w j v).length ≤ M + 1 := fun v hv => by
  obtain ⟨_, _, h3⟩ := vecOk_of hj hI v hv
  unfold more
  split
  · simp
    omega
  · split
    · simp
    · simp
theorem invF_succ (hj : j + 1 < w) (hI : InvF rows due w M j) : InvF rows due w M (j + 1) := by
  have hj0 : j < w := by omega
  have hm : ∀ v, more rows due w j v = (List.range (mpN (colAt rows j) (lfv rows due j v) + 1)).map fun x : Nat => v ++ [(x : Int)] := fun v => by
    unfold more
    rw [if_pos hj]
  refine ⟨fun u hu => ?_, ?_, ?_⟩
  · obtain ⟨v, hv, hu⟩ := List.mem_flatMap.mp hu
    rw [hm] at hu
    obtain ⟨x, hx, rfl⟩ := List.mem_map.mp hu
    have hx' := List.mem_range.mp hx
    obtain ⟨h1, h2⟩ := hI.1 v hv
    rw [cols_drop hj0] at h2
    obtain ⟨_, _, _, _, _, h3⟩ := h2
    refine ⟨by simp [h1], ?_⟩
    rw [lfv_succ h1]
    exact h3 x (by omega)
  · rw [← hI.2.1]
    show ((Fs rows due w j).flatMap (more rows due w j)).flatMap _ = _
    rw [List.flatMap_assoc]
    refine flat_congr fun v hv => ?_
    obtain ⟨h1, _⟩ := hI.1 v hv
    rw [hm, cols_drop hj0, sols_cons, List.flatMap_map, List.map_flatMap]
    refine flat_congr fun x _ => ?_
    rw [List.map_map, lfv_succ h1]
    refine map_ext fun u _ => ?_
    simp
  · show ((Fs rows due w j).flatMap (more rows due w j)).length ≤ _
    have := flat_len (more rows due w j) (M + 1) _ (more_len hj0 hI)
    rw [Nat.pow_succ]
    exact Nat.le_trans this (Nat.mul_le_mul_right _ hI.2.2)

theorem invF_all (hd : due.length = rows.length) (hg : Good rows.length M (colsOf rows w) due) : ∀ j, j < w → InvF rows due w M j
  | 0, _ => invF_zero hd hg
  | j + 1, h => invF_succ h (invF_all hd hg j (by omega))
theorem Fs_is (hw : 0 < w) (hd : due.length = rows.length) (hg : Good rows.length M (colsOf rows w) due) : Fs rows due w w = sols (colsOf rows w) due := by
  obtain ⟨j, rfl⟩ : ∃ j, w = j + 1 := ⟨w - 1, by omega⟩
  have hI := invF_all hd hg j (by omega)
  rw [← hI.2.1]
  show (Fs rows due (j + 1) j).flatMap (more rows due (j + 1) j) = _
  refine flat_congr fun v hv => ?_
  obtain ⟨h1, h2, h3⟩ := vecOk_of (by omega) hI v hv
  rw [cols_drop (by omega), cols_end, sols_last (by rw [lfv_len]; simp [colAt]) h2]
  unfold more
  rw [if_neg (by omega)]
  split
  · simp
  · simp
theorem Fs_len (hw : 0 < w) (hd : due.length = rows.length) (hg : Good rows.length M (colsOf rows w) due) (hs : (M + 1) ^ (w - 1) ≤ sizeLine) : ∀ j ≤ w, (Fs rows due w j).length ≤ (M + 1) ^ (w - 1) := fun j hj => by
  by_cases h : j < w
  · refine Nat.le_trans (invF_all hd hg j h).2.2 (Nat.pow_le_pow_right (by omega) (by omega))
  · have e : j = w := by omega
    subst e
    obtain ⟨i, rfl⟩ : ∃ i, j = i + 1 := ⟨j - 1, by omega⟩
    have hI := invF_all hd hg i (by omega)
    show ((Fs rows due (i + 1) i).flatMap (more rows due (i + 1) i)).length ≤ _
    have h1 : ∀ v ∈ Fs rows due (i + 1) i, (more rows due (i + 1) i v).length ≤ 1 := fun v _ => by
      unfold more
      rw [if_neg (by omega)]
      split <;> simp
    have h2 := flat_len _ 1 _ h1
    have h3 := hI.2.2
    simp at h2 ⊢
    omega
theorem law_choices_is (T : Tab rows w) (hw : 0 < w) (hd : due.length = rows.length) (hM : M ≤ 1000000) (hg : Good rows.length M (colsOf rows w) due) (hs : (M + 1) ^ (w - 1) ≤ sizeLine) :
    frun 12 m_law_choices [dR rows, dI due] = .sh (dR (sols (colsOf rows w) due)) ∧ (sols (colsOf rows w) due).length ≤ (M + 1) ^ (w - 1) := by
  rw [← Fs_is hw hd hg]
  exact ⟨law_choices_run T (by omega) hM (fun j hj => vecOk_of hj (invF_all hd hg j hj)) (fun j hj => Nat.le_trans (Fs_len hw hd hg hs j hj) hs), Fs_len hw hd hg hs w (Nat.le_refl _)⟩
end
end K80
end

section
set_option Elab.async false
set_option linter.all false
set_option maxRecDepth 100000
set_option maxHeartbeats 2000000
namespace K80
open PySem PySem.Spec PyProof.Rows L2 Nm

/-! ### right tables -/
section
variable {rows : List (List Int)} {due : List Int} {w M : Nat}
theorem good_of {h : Nat} (hdue : due.length = h) : ∀ (cs : List (List Int)) (ls : List Int), ls.length = h → (∀ k < h, 0 ≤ ls.getD k 0 ∧ ls.getD k 0 ≤ due.getD k 0) →
    (∀ c ∈ cs, c.length = h ∧ (∀ y ∈ c, 0 ≤ y ∧ y ≤ 1000) ∧ ∃ i < h, 0 < c.getD i 0 ∧ due.getD i 0 < ((M : Int) + 1) * c.getD i 0) → Good h M cs ls
  | [], ls, hl, _, _ => hl
  | c :: cs, ls, hl, hb, hc => by
    obtain ⟨c1, c2, i, hi, p1, p2⟩ := hc c List.mem_cons_self
    have hmem : ls.getD i 0 / c.getD i 0 ∈ quots c ls := by
      unfold quots
      exact List.mem_filterMap.mpr ⟨i, List.mem_range.mpr (by omega), by rw [if_pos p1]⟩
    have hqs : ∀ q ∈ quots c ls, ∃ k < h, 0 < c.getD k 0 ∧ q = ls.getD k 0 / c.getD k 0 := fun q hq => by
      unfold quots at hq
      obtain ⟨k, hk, e⟩ := List.mem_filterMap.mp hq
      split at e
      · rename_i hp
        exact ⟨k, by have := List.mem_range.mp hk; omega, hp, (Option.some.inj e).symm⟩
      · cases e
    obtain ⟨m, hm⟩ : ∃ m, lmin (quots c ls) = some m := by
      cases hq : quots c ls with
      | nil =>
        rw [hq] at hmem
        cases hmem
      | cons x xs => exact ⟨_, rfl⟩
    obtain ⟨m1, m2⟩ := lmin_spec hm
    obtain ⟨k, hk, kp, ke⟩ := hqs m m1
    have m0 : 0 ≤ m := by
      rw [ke]
      exact Int.ediv_nonneg (hb k hk).1 (by omega)
    have hmp : (mpN c ls : Int) = m := by
      unfold mpN
      rw [hm]
      show ((m.toNat : Nat) : Int) = m
      omega
    refine ⟨hl, c1, c2, by rw [hmp]; exact hm, ?_, fun x hx => ?_⟩
    · have h1 := m2 _ hmem
      have h2 : ls.getD i 0 / c.getD i 0 < (M : Int) + 1 := Int.ediv_lt_of_lt_mul p1 (by have := (hb i hi).2; omega)
      omega
    · refine good_of hdue cs _ (by simp [sub, hl]) (fun k hk => ?_) fun c' hc' => hc c' (List.mem_cons_of_mem _ hc')
      have e1 : (sub ls c x).getD k 0 = ls.getD k 0 - (x : Int) * c.getD k 0 := by
        unfold sub
        exact getD_map_range _ _ _ _ (by omega)
      rw [e1]
      have hck : 0 ≤ c.getD k 0 := by
        have hk2 : k < c.length := by omega
        have := c2 c[k] (List.getElem_mem hk2)
        rw [List.getD_eq_getElem?_getD, List.getElem?_eq_getElem hk2]
        exact this.1
      have hxc : 0 ≤ (x : Int) * c.getD k 0 := Int.mul_nonneg (by omega) hck
      refine ⟨?_, by have := (hb k hk).2; omega⟩
      by_cases hp : 0 < c.getD k 0
      · have hq : ls.getD k 0 / c.getD k 0 ∈ quots c ls := by
          unfold quots
          exact List.mem_filterMap.mpr ⟨k, List.mem_range.mpr (by omega), by rw [if_pos hp]⟩
        have h3 := m2 _ hq
        have h4 : (x : Int) * c.getD k 0 ≤ (ls.getD k 0 / c.getD k 0) * c.getD k 0 := Int.mul_le_mul_of_nonneg_right (by omega) hck
        have h5 := Int.ediv_mul_le (ls.getD k 0) (show c.getD k 0 ≠ 0 by omega)
        omega
      · have h6 : c.getD k 0 = 0 := by omega
        rw [h6, Int.mul_zero]
        have := (hb k hk).1
        omega
/-- a table as told: the widths are one, entries small, each column has one that is not 0 -/
structure Vt (rows : List (List Int)) (w : Nat) : Prop where
  tab : Tab rows w
  w1 : 1 ≤ w
  w8 : w ≤ 8
  cols : ∀ j < w, ∃ i < rows.length, 0 < (colAt rows j).getD i 0
/-- the counts of a column are bounded by M -/
def Bd (rows : List (List Int)) (due : List Int) (w M : Nat) : Prop := ∀ j < w, ∃ i < rows.length, 0 < (colAt rows j).getD i 0 ∧ due.getD i 0 < ((M : Int) + 1) * (colAt rows j).getD i 0
theorem good_tab (T : Tab rows w) (hd : due.length = rows.length) (h0 : ∀ x ∈ due, 0 ≤ x) (hB : Bd rows due w M) : Good rows.length M (colsOf rows w) due := by
  refine good_of hd _ _ hd (fun k hk => ?_) fun c hc => ?_
  · have hk2 : k < due.length := by omega
    have := h0 due[k] (List.getElem_mem hk2)
    rw [List.getD_eq_getElem?_getD, List.getElem?_eq_getElem hk2]
    exact ⟨this, Int.le_refl _⟩
  · unfold colsOf at hc
    obtain ⟨j, hj, rfl⟩ := List.mem_map.mp hc
    have hj' := List.mem_range.mp hj
    refine ⟨by simp [colAt], fun y hy => ?_, hB j hj'⟩
    unfold colAt at hy
    obtain ⟨r, hr, rfl⟩ := List.mem_map.mp hy
    have hl := T.rect.2.2.2 r hr
    have hj2 : j < r.length := by omega
    have := T.small r hr r[j] (List.getElem_mem hj2)
    rw [List.getD_eq_getElem?_getD, List.getElem?_eq_getElem hj2]
    exact this
end
end K80
end

section
set_option Elab.async false
set_option linter.all false
set_option maxRecDepth 100000
set_option maxHeartbeats 2000000
namespace K80
open PySem PySem.Spec PyProof.Rows L2 Nm

/-! ### check_table of a right table -/
theorem runLc2_nil {α : Type} {g : D → En → Option En} {t : MT} {vs : List Nat} {mi1 : MA} {g1 : D → En → Option En} {t1 : MT} {el : ME} {vs1 : List Nat} {e : En} (φ : α → D) : ∀ (xs : List α),
    (∀ x ∈ xs, ∃ e1 e2 ds1 e3 e4, g (φ x) e = some e1 ∧ t e1 = .ok true e2 ∧ mi1 e2 = .ok ds1 e3 ∧ runLc g1 t1 el vs1 ds1 (wipeE e3 vs1) = .ok [] e4 ∧ wipeE e4 vs = e) → runLc2 g t vs mi1 g1 t1 el vs1 (xs.map φ) e = .ok [] e
  | [], _ => rfl
  | x :: xs, h => by
    have ih := runLc2_nil φ xs fun y hy => h y (List.mem_cons_of_mem _ hy)
    obtain ⟨e1, e2, ds1, e3, e4, a1, a2, a3, a4, a5⟩ := h x List.mem_cons_self
    rw [List.map_cons]
    unfold runLc2
    rw [a1]
    dsimp only
    rw [a2]
    dsimp only
    rw [if_pos rfl, a3]
    dsimp only
    rw [a4]
    dsimp only
    rw [a5, ih]
    rfl
section
variable {rows : List (List Int)} {w : Nat}
def lc1 : MA := mLc (gNm 1) (mItems (mVar 0)) (mB (mBin gNe (mCB gLen (mCons (mVar 1) mNil)) (mCB gLen (mCons (mBin gIx (mVar 0) (mC (.int 0))) mNil)))) (mVar 1) [1]
def lc2 : MA := mLc2 (gNm 1) (mItems (mVar 0)) mYes [1, 2] (mItems (mVar 1)) (gNm 2) (mNot (mB (mChain gLe gLe (mC (.int 0)) (mVar 2) (mC (.int 1000))))) (mVar 2) [2]
def lc3i : MA := mLc (gNm 1) (mItems (mVar 0)) (mB (mBin gGt (mBin gIx (mVar 1) (mVar 3)) (mC (.int 0)))) (mVar 1) [1]
def lc3 : MA := mLc (gNm 3) (mRng1 (mCons (mCB gLen (mCons (mBin gIx (mVar 0) (mC (.int 0))) mNil)) mNil)) (mB (mBin gEq (mL lc3i) (mL (mCB gLst mNil)))) (mVar 3) [3]
theorem m_check_eq : m_check_table = sSeq (sIf (mOr (mB (mBin gEq (mVar 0) (mL (mCB gLst mNil)))) (mNot (mB (mChain gLe gLe (mC (.int 1)) (mCB gLen (mCons (mBin gIx (mVar 0) (mC (.int 0))) mNil)) (mC (.int 8)))))) (sRaiseP "InvalidTable" "rows") sNx)
  (sSeq (sIf (mB (mBin gNe (mL lc1) (mL (mCB gLst mNil)))) (sRaiseP "InvalidTable" "rows") sNx) (sSeq (sIf (mB (mBin gNe (mL lc2) (mL (mCB gLst mNil)))) (sRaiseP "InvalidTable" "entry") sNx) (sIf (mB (mBin gNe (mL lc3) (mL (mCB gLst mNil)))) (sRaiseP "InvalidTable" "column") sNx))) := rfl
theorem at00 (V : Vt rows w) : ∃ r, L2.atI (rows.map dI) 0 = some (dI r) ∧ r.length = w := by
  obtain ⟨r, rs, rfl, hw⟩ := at0 V.tab.rect
  have hat : L2.atI ((r :: rs).map dI) 0 = some (dI r) := atI_nat (j := 0) rfl
  exact ⟨r, hat, hw⟩
theorem lc1_is (V : Vt rows w) : lc1 [.sh (dR rows), .no, .no, .no] = .ok [] [.sh (dR rows), .no, .no, .no] := by
  obtain ⟨r0, hat, hr0⟩ := at00 V
  have hz : rows.length ≤ sizeLine := by have := V.tab.rect.2.1; rw [sizeLine_eq]; omega
  have k2 := runLc_fmF (g := gNm 1) (t := mB (mBin gNe (mCB gLen (mCons (mVar 1) mNil)) (mCB gLen (mCons (mBin gIx (mVar 0) (mC (.int 0))) mNil)))) (el := mVar 1) (vs := [1]) (e := [.sh (dR rows), .no, .no, .no]) dI (fun _ => none) rows fun r hr => by
    have hl := V.tab.rect.2.2.2 r hr
    simp [stepLc, hat, hl, hr0]
  rw [none_all] at k2
  exact lc_at rfl (by rw [List.length_map]; exact hz) rfl k2 rfl
theorem lc2_is (V : Vt rows w) : lc2 [.sh (dR rows), .no, .no, .no] = .ok [] [.sh (dR rows), .no, .no, .no] := by
  have k2 := runLc2_nil (g := gNm 1) (t := mYes) (vs := [1, 2]) (mi1 := mItems (mVar 1)) (g1 := gNm 2) (t1 := mNot (mB (mChain gLe gLe (mC (.int 0)) (mVar 2) (mC (.int 1000))))) (el := mVar 2) (vs1 := [2]) (e := [.sh (dR rows), .no, .no, .no]) dI rows fun r hr => by
    have hs := V.tab.small r hr
    have k3 := runLc_fmF (g := gNm 2) (t := mNot (mB (mChain gLe gLe (mC (.int 0)) (mVar 2) (mC (.int 1000))))) (el := mVar 2) (vs := [2]) (e := [.sh (dR rows), .sh (dI r), .no, .no]) D.int (fun _ => none) r fun y hy => by
      have := hs y hy
      simp [stepLc, this.1, this.2]
    rw [none_all] at k3
    exact ⟨_, _, _, _, _, rfl, rfl, rfl, k3, rfl⟩
  have hz : (0 : Nat) ≤ sizeLine := Nat.zero_le _
  have h1 : (mItems (mVar 0)) [.sh (dR rows), .no, .no, .no] = .ok (rows.map dI) [.sh (dR rows), .no, .no, .no] := rfl
  have h2 : wipeE [.sh (dR rows), .no, .no, .no] [1, 2] = [.sh (dR rows), .no, .no, .no] := rfl
  unfold lc2 mLc2
  rw [h1]
  simp only [Res.bind_ok]
  rw [if_pos (show noOw [.sh (dR rows), .no, .no, .no] [1, 2] = true from rfl), h2, k2]
  rfl
theorem lc3_is (V : Vt rows w) : lc3 [.sh (dR rows), .no, .no, .no] = .ok [] [.sh (dR rows), .no, .no, .no] := by
  obtain ⟨r0, hat, hr0⟩ := at00 V
  have hz : rows.length ≤ sizeLine := by have := V.tab.rect.2.1; rw [sizeLine_eq]; omega
  have hi : mRng1 (mCons (mCB gLen (mCons (mBin gIx (mVar 0) (mC (.int 0))) mNil)) mNil) [.sh (dR rows), .no, .no, .no] = .ok ((List.range w).map fun i : Nat => D.int (i : Nat)) [.sh (dR rows), .no, .no, .no] := by
    refine rngN_at ?_ (by have := V.w8; omega)
    simp [hat, hr0]
  have inner : ∀ j < w, ∃ l : List (List Int), l.isEmpty = false ∧ lc3i [.sh (dR rows), .no, .no, .sh (.int (j : Nat))] = .ok (l.map dI) [.sh (dR rows), .no, .no, .sh (.int (j : Nat))] := fun j hj => by
    have k3 := runLc_fmF (g := gNm 1) (t := mB (mBin gGt (mBin gIx (mVar 1) (mVar 3)) (mC (.int 0)))) (el := mVar 1) (vs := [1]) (e := [.sh (dR rows), .no, .no, .sh (.int (j : Nat))]) dI (fun r => if 0 < r.getD j 0 then some (dI r) else none) rows fun r hr => by
      have hl := V.tab.rect.2.2.2 r hr
      have hj2 : j < r.length := by omega
      by_cases h0 : 0 < r[j]
      · simp [stepLc, L2.atI, ixN, hj2, h0]
      · simp [stepLc, L2.atI, ixN, hj2, h0]
    have e5 : ∀ l : List (List Int), l.filterMap (fun r => if 0 < r.getD j 0 then some (dI r) else none) = (l.filter fun r => decide (0 < r.getD j 0)).map dI := by
      intro l
      induction l with
      | nil => rfl
      | cons x xs ih =>
        rw [List.filterMap_cons, List.filter_cons, ih]
        by_cases h : 0 < x.getD j 0
        · rw [if_pos h, if_pos (decide_eq_true h)]
          rfl
        · rw [if_neg h, if_neg (by simpa using h)]
    rw [e5] at k3
    refine ⟨_, ?_, lc_at rfl (by rw [List.length_map]; exact hz) rfl k3 rfl⟩
    obtain ⟨i, hi, hp⟩ := V.cols j hj
    have hmem : rows[i] ∈ rows.filter fun r => decide (0 < r.getD j 0) := by
      refine List.mem_filter.mpr ⟨List.getElem_mem hi, decide_eq_true ?_⟩
      unfold colAt at hp
      rw [List.getD_eq_getElem?_getD, List.getElem?_map, List.getElem?_eq_getElem hi] at hp
      exact hp
    cases hq : rows.filter fun r => decide (0 < r.getD j 0) with
    | nil =>
      rw [hq] at hmem
      cases hmem
    | cons => rfl
  have k2 := runLc_fmF (g := gNm 3) (t := mB (mBin gEq (mL lc3i) (mL (mCB gLst mNil)))) (el := mVar 3) (vs := [3]) (e := [.sh (dR rows), .no, .no, .no]) (fun i : Nat => D.int (i : Nat)) (fun _ => none) (List.range w) fun j hj => by
    obtain ⟨l, hl, h3⟩ := inner j (List.mem_range.mp hj)
    have he : gEq (dR l) (.lst []) = some (.bl false) := by
      rw [gEq_nil (okN_rows l)]
      cases l with
      | nil => cases hl
      | cons => rfl
    simp [stepLc, h3, he]
  rw [none_all] at k2
  exact lc_at hi (by rw [List.length_map, List.length_range, sizeLine_eq]; have := V.w8; omega) rfl k2 rfl
theorem check_ok (V : Vt rows w) : frun 4 m_check_table [dR rows] = .sh .non := by
  obtain ⟨r0, hat, hr0⟩ := at00 V
  have he : gEq (dR rows) (.lst []) = some (.bl false) := by
    rw [gEq_nil (okN_rows rows)]
    obtain ⟨r, rs, rfl, _⟩ := at0 V.tab.rect
    rfl
  have h1 : (1 : Int) ≤ (w : Int) := by have := V.w1; omega
  have h8 : (w : Int) ≤ 8 := by have := V.w8; omega
  have e0 : env0 4 [dR rows] = [.sh (dR rows), .no, .no, .no] := rfl
  have s1 : sIf (mOr (mB (mBin gEq (mVar 0) (mL (mCB gLst mNil)))) (mNot (mB (mChain gLe gLe (mC (.int 1)) (mCB gLen (mCons (mBin gIx (mVar 0) (mC (.int 0))) mNil)) (mC (.int 8)))))) (sRaiseP "InvalidTable" "rows") sNx [.sh (dR rows), .no, .no, .no] = .nx [.sh (dR rows), .no, .no, .no] := by
    simp [he, hat, hr0, h1, h8]
  have s2 : sIf (mB (mBin gNe (mL lc1) (mL (mCB gLst mNil)))) (sRaiseP "InvalidTable" "rows") sNx [.sh (dR rows), .no, .no, .no] = .nx [.sh (dR rows), .no, .no, .no] := by simp [lc1_is V]
  have s3 : sIf (mB (mBin gNe (mL lc2) (mL (mCB gLst mNil)))) (sRaiseP "InvalidTable" "entry") sNx [.sh (dR rows), .no, .no, .no] = .nx [.sh (dR rows), .no, .no, .no] := by simp [lc2_is V]
  have s4 : sIf (mB (mBin gNe (mL lc3) (mL (mCB gLst mNil)))) (sRaiseP "InvalidTable" "column") sNx [.sh (dR rows), .no, .no, .no] = .nx [.sh (dR rows), .no, .no, .no] := by simp [lc3_is V]
  rw [m_check_eq]
  unfold frun
  rw [e0, sSeq_nx s1, sSeq_nx s2, sSeq_nx s3, s4]
  rfl
end
end K80
end

section
set_option Elab.async false
set_option linter.all false
set_option maxRecDepth 100000
set_option maxHeartbeats 2000000
namespace K80
open PySem PySem.Spec PyProof.Rows L2 Nm

/-! ### the written tables -/
abbrev one9 : List Int := [1, 1, 1, 1, 1, 1, 1, 1, 1]
def bads : List (List (List Int)) := [[], [[]], [[1], []], [[1, 2], [1]], [one9], [one9, [1]], [[1], [1, 2], [3]], [[1, -1]], [[0, 1001]], [[1, 2], [3, -4]], [[1001, 0, 0, 0, 0, 0, 0, 0]], [[-1, 0]],
  [[0]], [[1, 0], [2, 0]], [[0, 0, 0]], [[1, 0, 3], [0, 0, 0]], [[1, 1], [2]], [[5, 0, 1000]], [[1000, 1, 1, 1, 1, 1, 1, 1]], [[1]], [[0, 1], [1, 0]], [[1000]], [[0, 1000], [1000, 0]]]
def parts : List D := [.str "rows", .str "rows", .str "rows", .str "rows", .str "rows", .str "rows", .str "rows", .str "entry", .str "entry", .str "entry", .str "entry", .str "entry", .str "column", .str "column", .str "column", .str "column", .str "rows", .str "column", .non, .non, .non, .non, .non]
def dueP : D → D
  | .non => .tup [.str "told", .non]
  | p => .tup [.str "part", p]
abbrev fCk : List D → FR := frun 4 m_check_table
abbrev fCh : List D → FR := frun 14 (m_choices fCk fMP)
abbrev fBp : List D → FR := frun 4 m_law_bad_part
abbrev fPt : List D → FR := frun 4 (m_law_part fCk fCh)
abbrev fTd : List D → FR := frun 4 (m_law_told fCh)
structure BadOk (t : Nat) : Prop where
  part : fBp [dR (bads.getD t [])] = .sh (parts.getD t .non)
  p0 : fPt [.int 0, dR (bads.getD t [])] = .sh (dueP (parts.getD t .non))
  p1 : fPt [.int 1, dR (bads.getD t [])] = .sh (dueP (parts.getD t .non))
theorem bad0 : BadOk 0 := ⟨by kernel_rfl, by kernel_rfl, by kernel_rfl⟩
theorem bad1 : BadOk 1 := ⟨by kernel_rfl, by kernel_rfl, by kernel_rfl⟩
theorem bad2 : BadOk 2 := ⟨by kernel_rfl, by kernel_rfl, by kernel_rfl⟩
theorem bad3 : BadOk 3 := ⟨by kernel_rfl, by kernel_rfl, by kernel_rfl⟩
theorem bad4 : BadOk 4 := ⟨by kernel_rfl, by kernel_rfl, by kernel_rfl⟩
theorem bad5 : BadOk 5 := ⟨by kernel_rfl, by kernel_rfl, by kernel_rfl⟩
theorem bad6 : BadOk 6 := ⟨by kernel_rfl, by kernel_rfl, by kernel_rfl⟩
theorem bad7 : BadOk 7 := ⟨by kernel_rfl, by kernel_rfl, by kernel_rfl⟩
theorem bad8 : BadOk 8 := ⟨by kernel_rfl, by kernel_rfl, by kernel_rfl⟩
theorem bad9 : BadOk 9 := ⟨by kernel_rfl, by kernel_rfl, by kernel_rfl⟩
theorem bad10 : BadOk 10 := ⟨by kernel_rfl, by kernel_rfl, by kernel_rfl⟩
theorem bad11 : BadOk 11 := ⟨by kernel_rfl, by kernel_rfl, by kernel_rfl⟩
theorem bad12 : BadOk 12 := ⟨by kernel_rfl, by kernel_rfl, by kernel_rfl⟩
theorem bad13 : BadOk 13 := ⟨by kernel_rfl, by kernel_rfl, by kernel_rfl⟩
theorem bad14 : BadOk 14 := ⟨by kernel_rfl, by kernel_rfl, by kernel_rfl⟩
theorem bad15 : BadOk 15 := ⟨by kernel_rfl, by kernel_rfl, by kernel_rfl⟩
theorem bad16 : BadOk 16 := ⟨by kernel_rfl, by kernel_rfl, by kernel_rfl⟩
theorem bad17 : BadOk 17 := ⟨by kernel_rfl, by kernel_rfl, by kernel_rfl⟩
theorem bad18 : BadOk 18 := ⟨by kernel_rfl, by kernel_rfl, by kernel_rfl⟩
theorem bad19 : BadOk 19 := ⟨by kernel_rfl, by kernel_rfl, by kernel_rfl⟩
theorem bad20 : BadOk 20 := ⟨by kernel_rfl, by kernel_rfl, by kernel_rfl⟩
theorem bad21 : BadOk 21 := ⟨by kernel_rfl, by kernel_rfl, by kernel_rfl⟩
theorem bad22 : BadOk 22 := ⟨by kernel_rfl, by kernel_rfl, by kernel_rfl⟩
theorem bad_ok : (t : Nat) → t < 23 → BadOk t
  | 0, _ => bad0
  | 1, _ => bad1
  | 2, _ => bad2
  | 3, _ => bad3
  | 4, _ => bad4
  | 5, _ => bad5
  | 6, _ => bad6
  | 7, _ => bad7
  | 8, _ => bad8
  | 9, _ => bad9
  | 10, _ => bad10
  | 11, _ => bad11
  | 12, _ => bad12
  | 13, _ => bad13
  | 14, _ => bad14
  | 15, _ => bad15
  | 16, _ => bad16
  | 17, _ => bad17
  | 18, _ => bad18
  | 19, _ => bad19
  | 20, _ => bad20
  | 21, _ => bad21
  | 22, _ => bad22
  | n + 23, h => absurd h (by omega)

theorem same_of {a b : Out} (h : a = b) : a = b := h
theorem bad_table_is (ns : List Int) : ∃ t, t < 23 ∧ frun 4 (m_law_bad_table fC) [dF ns] = .ow ((bads.getD t []).map dI) := by
  obtain ⟨c, hc⟩ := cell_is ns 40 (by omega)
  have hc' : fC [dF ns, .int 40] = .sh (.int c) := hc
  have hmod : cMod c 23 = true := mod_of (by decide)
  have hlt : (c % 23).toNat < 23 := by omega
  have hcast : ((c % 23).toNat : Int) = c % 23 := by omega
  refine ⟨(c % 23).toNat, hlt, ?_⟩
  have s1 : sSet 1 (mCall 2 fC (mCons (mVar 0) (mCons (mC (.int 40)) mNil))) (env0 4 [dF ns]) = .nx [.sh (dF ns), .sh (.int c), .no, .no] := by
    simp [env0, hc']
  have hbl : bads.length = 23 := rfl
  have hat0 : ∀ t, t < 23 → L2.atI (bads.map dR) ((t : Nat) : Int) = some (dR (bads.getD t [])) := fun t ht => by
    refine atI_nat ?_
    rw [List.getElem?_map, List.getD_eq_getElem?_getD, List.getElem?_eq_getElem (by rw [hbl]; omega)]
    rfl
  have hat := hat0 _ hlt
  rw [hcast] at hat
  have h2 : (2 : Nat) ≤ sizeLine := by rw [sizeLine_eq]; omega
  have hsz : ∀ t, t < 23 → (bads.getD t []).length ≤ 3 := by decide
  have hz : ((bads.getD (c % 23).toNat []).map dI).length ≤ sizeLine := by
    rw [List.length_map, sizeLine_eq]
    have := hsz _ hlt
    omega
  have fin : sRetO (mLc (gNm 3) (mItems (mBin gIx (mVar 2) (mBin gMod (mCB gInt (mCons (mVar 1) mNil)) (mCB gLen (mCons (mVar 2) mNil))))) mYes (mL (mCB gList (mCons (mVar 3) mNil))) [3]) [.sh (dF ns), .sh (.int c), .sh (.lst (bads.map dR)), .no] =
      .rt (.ow ((bads.getD (c % 23).toNat []).map dI)) [.sh (dF ns), .sh (.int c), .sh (.lst (bads.map dR)), .no] := by
    have hi : mItems (mBin gIx (mVar 2) (mBin gMod (mCB gInt (mCons (mVar 1) mNil)) (mCB gLen (mCons (mVar 2) mNil)))) [.sh (dF ns), .sh (.int c), .sh (.lst (bads.map dR)), .no] = .ok ((bads.getD (c % 23).toNat []).map dI) [.sh (dF ns), .sh (.int c), .sh (.lst (bads.map dR)), .no] := by
      simp only [mItems, mBin, mVar, mCB, mCons, mNil, List.getElem?_cons_succ, List.getElem?_cons_zero, Res.bind_ok, gInt, ofO_some, gLen, List.length_map, hbl, gMod_i]
      rw [show ((23 : Nat) : Int) = 23 from rfl, if_pos hmod]
      simp only [ofO_some, Res.bind_ok, gIx, hat]
    have k2 := runLc_mapF (g := gNm 3) (t := mYes) (el := mL (mCB gList (mCons (mVar 3) mNil))) (vs := [3]) (e := [.sh (dF ns), .sh (.int c), .sh (.lst (bads.map dR)), .no]) dI dI (bads.getD (c % 23).toNat []) fun r _ => by simp [stepLc]
    unfold sRetO
    rw [lc_at hi hz rfl k2 rfl]
    rfl
  unfold frun m_law_bad_table
  rw [sSeq_nx s1]
  rw [sSeq_nx (e1 := [.sh (dF ns), .sh (.int c), .sh (.lst ((bads.take 7).map dR)), .no]) (by kernel_rfl)]
  rw [sSeq_nx (e1 := [.sh (dF ns), .sh (.int c), .sh (.lst ((bads.take 12).map dR)), .no]) (by kernel_rfl)]
  rw [sSeq_nx (e1 := [.sh (dF ns), .sh (.int c), .sh (.lst ((bads.take 18).map dR)), .no]) (by kernel_rfl)]
  rw [sSeq_nx (e1 := [.sh (dF ns), .sh (.int c), .sh (.lst (bads.map dR)), .no]) (by kernel_rfl)]
  rw [fin]
  rfl
theorem told_ok {tb due most : D} {l : List D} (h : fCh [tb, due, most] = .ow l) : fTd [tb, due, most] = .sh (.tup [.str "told", .lst l]) := by
  have h2 : (2 : Nat) ≤ sizeLine := by rw [sizeLine_eq]; omega
  have e1 : mCallK 2 1 fCh (mCons (mVar 0) (mCons (mVar 1) mNil)) (mCons (mVar 2) mNil) (env0 4 [tb, due, most]) = .ok (.lst l) (env0 4 [tb, due, most]) := by
    simp [env0, h]
  unfold fTd frun m_law_told
  have e2 : sRet (mCB gTup (mCons (mC (.str "told")) (mCons (mCallK 2 1 fCh (mCons (mVar 0) (mCons (mVar 1) mNil)) (mCons (mVar 2) mNil)) mNil))) (env0 4 [tb, due, most]) = .rt (.sh (.tup [.str "told", .lst l])) (env0 4 [tb, due, most]) := by
    simp only [sRet, mCB, mCons, mC, mNil, Res.bind_ok, e1, Nm.gTup]
    rw [if_pos (show ([D.str "told", .lst l] : List D).length ≤ sizeLine from h2)]
    rfl
  unfold sTry
  rw [e2]
  rfl
theorem told_many {tb due most : D} (h : fCh [tb, due, most] = .exc ⟨"TooMany", []⟩) : fTd [tb, due, most] = .sh (.tup [.str "many", .bl true]) := by
  have e1 : mCallK 2 1 fCh (mCons (mVar 0) (mCons (mVar 1) mNil)) (mCons (mVar 2) mNil) (env0 4 [tb, due, most]) = .exc ⟨"TooMany", []⟩ (env0 4 [tb, due, most]) := by
    simp [env0, h]
  unfold fTd frun m_law_told
  have e2 : sRet (mCB gTup (mCons (mC (.str "told")) (mCons (mCallK 2 1 fCh (mCons (mVar 0) (mCons (mVar 1) mNil)) (mCons (mVar 2) mNil)) mNil))) (env0 4 [tb, due, most]) = .exc ⟨"TooMany", []⟩ (env0 4 [tb, due, most]) := by
    simp only [sRet, mCB, mCons, mC, Res.bind_ok, e1, Res.bind_exc, Res.so_exc]
  unfold sTry
  rw [e2]
  rfl
end K80
end

section
set_option Elab.async false
set_option linter.all false
set_option maxRecDepth 100000
set_option maxHeartbeats 2000000
namespace K80
open PySem PySem.Spec PyProof.Rows L2 Nm

/-! ### the law's last part -/
abbrev fSm : List D → FR := fS 6
abbrev fLc : List D → FR := frun 12 m_law_choices
abbrev fTo : List D → FR := frun 5 m_totals
abbrev fLt : List D → FR := frun 4 m_law_totals
abbrev fWh : List D → FR := frun 3 m_law_is_whole
section
variable {rows : List (List Int)} {due v : List Int} {w M : Nat} {s c1 c2 c3 c5 c7 c9 c10 c12 c13 c14 : Cell}
def lcCopy : MA := mLc (gNm 4) (mItems (mVar 6)) mYes (mL (mCB gList (mCons (mVar 4) mNil))) [4]
theorem copy_is (hz : rows.length ≤ 1000) : lcCopy [s, c1, c2, c3, .no, c5, .sh (dR rows), c7, .no, c9, c10, .no, c12, c13, c14] = .ok (rows.map dI) [s, c1, c2, c3, .no, c5, .sh (dR rows), c7, .no, c9, c10, .no, c12, c13, c14] := by
  have k2 := runLc_mapF (g := gNm 4) (t := mYes) (el := mL (mCB gList (mCons (mVar 4) mNil))) (vs := [4]) (e := [s, c1, c2, c3, .no, c5, .sh (dR rows), c7, .no, c9, c10, .no, c12, c13, c14]) dI dI rows fun r _ => by simp [stepLc]
  exact lc_at rfl (by rw [List.length_map, sizeLine_eq]; omega) rfl k2 rfl
/-- what is known of table, vector and totals -/
structure Fit (rows : List (List Int)) (v due : List Int) (w M : Nat) : Prop where
  vt : Vt rows w
  vl : v.length = w
  dl : due.length = rows.length
  hM : M ≤ 1000
  ndl : nd M w < fuel
  pw : (M + 1) ^ (w - 1) < sizeLine
  bd : (∀ x ∈ due, 0 ≤ x) → Bd rows due w M
def solF (rows : List (List Int)) (due : List Int) (w : Nat) : List (List Int) := if anyNeg due = true then [] else sols (colsOf rows w) due
theorem neg_min {m : Int} (hm : lmin due = some m) : anyNeg due = decide (m < 0) := by
  obtain ⟨m1, m2⟩ := lmin_spec hm
  unfold anyNeg
  by_cases h : m < 0
  · have : m ∈ due.filter fun x => decide (x < 0) := List.mem_filter.mpr ⟨m1, decide_eq_true h⟩
    cases hq : due.filter fun x => decide (x < 0) with
    | nil =>
      rw [hq] at this
      cases this
    | cons => simp [h]
  · have : due.filter (fun x => decide (x < 0)) = [] := by
      rw [List.filter_eq_nil_iff]
      intro x hx
      have := m2 x hx
      simp
      omega
    rw [this]
    simp [h]
theorem nonneg_of (h : anyNeg due = false) : ∀ x ∈ due, 0 ≤ x := fun x hx => by
  unfold anyNeg at h
  by_cases h0 : x < 0
  · have : x ∈ due.filter fun x => decide (x < 0) := List.mem_filter.mpr ⟨hx, decide_eq_true h0⟩
    cases hq : due.filter fun x => decide (x < 0) with
    | nil =>
      rw [hq] at this
      cases this
    | cons =>
      rw [hq] at h
      cases h
  · omega
/-- the program's answer where the choices are as many as allowed -/
theorem fch_ok (F : Fit rows v due w M) {most : Int} (h : ((solF rows due w).length : Int) ≤ most) (hs : most < (sizeLine : Nat)) : fCh [dR rows, dI due, .int most] = .ow ((solF rows due w).map dI) := by
  have hh := F.vt.tab.rect.2.1
  unfold solF at h ⊢
  cases hn : anyNeg due with
  | true =>
    rw [if_pos rfl]
    exact ch_neg (check_ok F.vt) (by have := F.dl; omega) hn
  | false =>
    rw [hn, if_neg Bool.false_ne_true] at h
    rw [if_neg Bool.false_ne_true]
    have hg := good_tab F.vt.tab F.dl (nonneg_of hn) (F.bd (nonneg_of hn))
    refine (ch_go (check_ok F.vt) F.vt.tab.rect (by have := F.dl; omega) hn hh (by have := F.hM; omega) hg ?_ (Nat.le_refl _) F.ndl (by omega) hs).trans ?_
    · have h1 := F.vt.w8
      have h2 := F.hM
      rw [sizeLine_eq]
      have : w * (M + 1) ≤ 8 * (1000 + 1) := Nat.mul_le_mul h1 (by omega)
      omega
    · rw [if_pos h]
theorem fch_many (F : Fit rows v due w M) {most : Int} (h : most < ((solF rows due w).length : Int)) (h0 : 0 ≤ most) (hs : most < (sizeLine : Nat)) (hne : solF rows due w ≠ []) : fCh [dR rows, dI due, .int most] = .exc ⟨"TooMany", []⟩ := by
  have hh := F.vt.tab.rect.2.1
  unfold solF at h hne
  cases hn : anyNeg due with
  | true =>
    rw [hn, if_pos rfl] at hne
    exact absurd rfl hne
  | false =>
    rw [hn, if_neg Bool.false_ne_true] at h
    have hg := good_tab F.vt.tab F.dl (nonneg_of hn) (F.bd (nonneg_of hn))
    refine (ch_go (check_ok F.vt) F.vt.tab.rect (by have := F.dl; omega) hn hh (by have := F.hM; omega) hg ?_ (Nat.le_refl _) F.ndl h0 hs).trans ?_
    · have h1 := F.vt.w8
      have h2 := F.hM
      rw [sizeLine_eq]
      have : w * (M + 1) ≤ 8 * (1000 + 1) := Nat.mul_le_mul h1 (by omega)
      omega
    · rw [if_neg (by omega)]
theorem sol_len (F : Fit rows v due w M) : (solF rows due w).length < sizeLine := by
  unfold solF
  cases hn : anyNeg due with
  | true =>
    rw [if_pos rfl]
    show 0 < sizeLine
    rw [sizeLine_eq]
    omega
  | false =>
    rw [if_neg Bool.false_ne_true]
    have hg := good_tab F.vt.tab F.dl (nonneg_of hn) (F.bd (nonneg_of hn))
    exact Nat.lt_of_le_of_lt (law_choices_is F.vt.tab F.vt.w1 F.dl (by have := F.hM; omega) hg (Nat.le_of_lt F.pw)).2 F.pw
theorem law_ch (F : Fit rows v due w M) (hn : anyNeg due = false) : fLc [dR rows, dI due] = .sh (dR (solF rows due w)) := by
  have hg := good_tab F.vt.tab F.dl (nonneg_of hn) (F.bd (nonneg_of hn))
  unfold solF
  rw [hn, if_neg Bool.false_ne_true]
  exact (law_choices_is F.vt.tab F.vt.w1 F.dl (by have := F.hM; omega) hg (Nat.le_of_lt F.pw)).1

def sFound : MS := sFrz 10 (sSet 12 (mIf (mB (mBin gGe (mCB gMinL (mCons (mVar 10) mNil)) (mC (.int 0)))) (mCall 2 fLc (mCons (mVar 6) (mCons (mVar 10) mNil))) (mL (mCB gLst mNil))))
def sKept : MS := sFrz 9 (sSet 13 (mL (mCB gLst (mCons (mL lcCopy) (mCons (mL (mCB gList (mCons (mVar 9) mNil))) (mCons (mL (mCB gList (mCons (mVar 10) mNil))) mNil))))))
def sTot : MS := sFrz 9 (sIf (mOr (mNot (mB (mCall 2 fWh (mCons (mCall 2 fTo (mCons (mVar 6) (mCons (mVar 9) mNil))) (mCons (mCall 2 fLt (mCons (mBin gIx (mVar 13) (mC (.int 0))) (mCons (mBin gIx (mVar 13) (mC (.int 1))) mNil))) mNil))))) (mB (mBin gNe (mL (mCB gLst (mCons (mVar 6) (mCons (mVar 9) mNil)))) (mL (mSl (mVar 13) mNoP (mPart (mC (.int 2)))))))) (sRet (mC (.bl false))) sNx)
def sHand : MS := sSet 14 (mL (mCB gLst (mCons (mL lcCopy) (mCons (mL (mCB gList (mCons (mVar 10) mNil))) mNil))))
def sTold : MS := sIf (mOr (mNot (mB (mCall 2 fSm (mCons (mCall 3 fTd (mCons (mBin gIx (mVar 14) (mC (.int 0))) (mCons (mBin gIx (mVar 14) (mC (.int 1))) (mCons (mCB gLen (mCons (mVar 12) mNil)) mNil)))) (mCons (mCB gTup (mCons (mC (.str "told")) (mCons (mVar 12) mNil))) mNil))))) (mB (mBin gNe (mVar 14) (mL (mCB gLst (mCons (mVar 6) (mCons (mVar 10) mNil))))))) (sRet (mC (.bl false))) sNx
def sLast : MS := sRet (mOrV (mBin gEq (mVar 12) (mL (mCB gLst mNil))) (mCall 2 fSm (mCons (mCall 3 fTd (mCons (mBin gIx (mVar 14) (mC (.int 0))) (mCons (mBin gIx (mVar 14) (mC (.int 1))) (mCons (mBin gSub (mCB gLen (mCons (mVar 12) mNil)) (mC (.int 1))) mNil)))) (mCons (mCB gTup (mCons (mC (.str "many")) (mCons (mC (.bl true)) mNil))) mNil))))
theorem sols_width : ∀ (cs : List (List Int)) (ls : List Int), ∀ u ∈ sols cs ls, u.length = cs.length
  | [], ls, u, hu => by
    unfold sols at hu
    split at hu
    · rw [List.mem_singleton.mp hu]
      rfl
    · cases hu
  | c :: cs, ls, u, hu => by
    rw [sols_cons] at hu
    obtain ⟨x, _, hu⟩ := List.mem_flatMap.mp hu
    obtain ⟨t, ht, rfl⟩ := List.mem_map.mp hu
    rw [List.length_cons, List.length_cons, sols_width cs _ t ht]
theorem ok_told : okEq (.str "told") = true := by kernel_rfl
theorem ok_many : okEq (.str "many") = true := by kernel_rfl
theorem last_part (F : Fit rows v due w M) (hne : due ≠ []) (h10 : c10 = .ow (due.map D.int) ∨ c10 = .sh (dI due)) (h9 : c9 = .ow (v.map D.int) ∨ c9 = .sh (dI v)) (hr : ∀ r ∈ rows, r.length = v.length ∧ ∀ y ∈ r, 0 ≤ y ∧ y ≤ 1000) :
    ∃ e, sSeq sFound (sSeq sKept (sSeq sTot (sSeq sHand (sSeq sTold sLast)))) [s, c1, c2, c3, .no, c5, .sh (dR rows), c7, .no, c9, c10, .no, .no, .no, .no] = .rt (.sh (.bl true)) e := by
  have hz : rows.length ≤ 1000 := F.vt.tab.rect.2.1
  have hv : v.length ≤ 1000 := by have := F.vl; have := F.vt.w8; omega
  have z1 : (1 : Nat) ≤ sizeLine := by rw [sizeLine_eq]; omega
  have z2 : (2 : Nat) ≤ sizeLine := by rw [sizeLine_eq]; omega
  have z3 : (3 : Nat) ≤ sizeLine := by rw [sizeLine_eq]; omega
  obtain ⟨m, hm⟩ : ∃ m, lmin due = some m := by
    cases due with
    | nil => exact absurd rfl hne
    | cons x xs => exact ⟨_, rfl⟩
  have hneg := neg_min hm
  -- found
  have s1 : sFound [s, c1, c2, c3, .no, c5, .sh (dR rows), c7, .no, c9, c10, .no, .no, .no, .no] = .nx [s, c1, c2, c3, .no, c5, .sh (dR rows), c7, .no, c9, .sh (dI due), .no, .sh (dR (solF rows due w)), .no, .no] := by
    have hf : frz 10 [s, c1, c2, c3, .no, c5, .sh (dR rows), c7, .no, c9, c10, .no, .no, .no, .no] = [s, c1, c2, c3, .no, c5, .sh (dR rows), c7, .no, c9, .sh (dI due), .no, .no, .no, .no] := by
      rcases h10 with rfl | rfl <;> simp
    unfold sFound sFrz
    rw [hf]
    by_cases h0 : 0 ≤ m
    · have hn : anyNeg due = false := by rw [hneg]; exact decide_eq_false (by omega)
      have hl : fLc [dR rows, dI due] = .sh (dR (solF rows due w)) := law_ch F hn
      simp [gMinL, gOfInts, hm, h0, hl]
    · have hn : anyNeg due = true := by rw [hneg]; exact decide_eq_true (by omega)
      simp [gMinL, gOfInts, hm, h0, solF, hn]
  have s2 : sKept [s, c1, c2, c3, .no, c5, .sh (dR rows), c7, .no, c9, .sh (dI due), .no, .sh (dR (solF rows due w)), .no, .no] = .nx [s, c1, c2, c3, .no, c5, .sh (dR rows), c7, .no, .sh (dI v), .sh (dI due), .no, .sh (dR (solF rows due w)), .sh (.lst [dR rows, dI v, dI due]), .no] := by
    have hf : frz 9 [s, c1, c2, c3, .no, c5, .sh (dR rows), c7, .no, c9, .sh (dI due), .no, .sh (dR (solF rows due w)), .no, .no] = [s, c1, c2, c3, .no, c5, .sh (dR rows), c7, .no, .sh (dI v), .sh (dI due), .no, .sh (dR (solF rows due w)), .no, .no] := by
      rcases h9 with rfl | rfl <;> simp
    unfold sKept sFrz
    rw [hf]
    simp [copy_is hz, z3]
  have ht : fTo [dR rows, dI v] = .ow ((tot rows v).map D.int) := totals_is hz hr hv
  have hlt : fLt [dR rows, dI v] = .ow ((tot rows v).map D.int) := law_totals_is hz hr hv
  have hwh : fWh [.lst ((tot rows v).map D.int), .lst ((tot rows v).map D.int)] = .sh (.bl true) := is_whole_is _ (by simpa [tot] using hz)
  have okl : okN 3 (.lst [dR rows, dI v]) := okN_lst fun d hd => by
    simp at hd
    rcases hd with rfl | rfl
    · exact okN_rows _
    · exact (okN_ints v).mono
  have s3 : sTot [s, c1, c2, c3, .no, c5, .sh (dR rows), c7, .no, .sh (dI v), .sh (dI due), .no, .sh (dR (solF rows due w)), .sh (.lst [dR rows, dI v, dI due]), .no] = .nx [s, c1, c2, c3, .no, c5, .sh (dR rows), c7, .no, .sh (dI v), .sh (dI due), .no, .sh (dR (solF rows due w)), .sh (.lst [dR rows, dI v, dI due]), .no] := by
    have a0 : L2.atI [dR rows, dI v, dI due] 0 = some (dR rows) := rfl
    have a1 : L2.atI [dR rows, dI v, dI due] 1 = some (dI v) := rfl
    have hc : cutD [dR rows, dI v, dI due] none (some 2) = [dR rows, dI v] := rfl
    have hg := gNe_self okl
    simp [sTot, a0, a1, ht, hlt, hwh, z2, hc, hg]
  have s4 : sHand [s, c1, c2, c3, .no, c5, .sh (dR rows), c7, .no, .sh (dI v), .sh (dI due), .no, .sh (dR (solF rows due w)), .sh (.lst [dR rows, dI v, dI due]), .no] = .nx [s, c1, c2, c3, .no, c5, .sh (dR rows), c7, .no, .sh (dI v), .sh (dI due), .no, .sh (dR (solF rows due w)), .sh (.lst [dR rows, dI v, dI due]), .sh (.lst [dR rows, dI due])] := by
    unfold sHand
    simp [copy_is hz, z2]
  have okd : okN 3 (.lst [dR rows, dI due]) := okN_lst fun d hd => by
    simp at hd
    rcases hd with rfl | rfl
    · exact okN_rows _
    · exact (okN_ints due).mono
  have b0 : L2.atI [dR rows, dI due] 0 = some (dR rows) := rfl
  have b1 : L2.atI [dR rows, dI due] 1 = some (dI due) := rfl
  have hsl := sol_len F
  have hwl : ∀ u ∈ solF rows due w, u.length ≤ sizeLine := fun u hu => by
    unfold solF at hu
    split at hu
    · cases hu
    · rw [sols_width _ _ u hu, sizeLine_eq]
      have := F.vt.w8
      simp [colsOf]
      omega
  have pd : PD 2 (dR (solF rows due w)) := PD_rows _ (Nat.le_of_lt hsl) hwl
  have s5 : sTold [s, c1, c2, c3, .no, c5, .sh (dR rows), c7, .no, .sh (dI v), .sh (dI due), .no, .sh (dR (solF rows due w)), .sh (.lst [dR rows, dI v, dI due]), .sh (.lst [dR rows, dI due])] = .nx [s, c1, c2, c3, .no, c5, .sh (dR rows), c7, .no, .sh (dI v), .sh (dI due), .no, .sh (dR (solF rows due w)), .sh (.lst [dR rows, dI v, dI due]), .sh (.lst [dR rows, dI due])] := by
    have htd : fTd [dR rows, dI due, .int ((solF rows due w).length : Nat)] = .sh (.tup [.str "told", dR (solF rows due w)]) := told_ok (fch_ok F (Int.le_refl _) (by omega))
    have hsm : fSm [.tup [.str "told", dR (solF rows due w)], .tup [.str "told", dR (solF rows due w)]] = .sh (.bl true) := same_self 5 _ ⟨z2, fun x hx => by
      simp at hx
      rcases hx with rfl | rfl
      · exact ok_told
      · exact pd.up.up⟩
    have hg := gNe_self okd
    simp [sTold, b0, b1, htd, hsm, z2, hg]
  have s6 : ∃ e, sLast [s, c1, c2, c3, .no, c5, .sh (dR rows), c7, .no, .sh (dI v), .sh (dI due), .no, .sh (dR (solF rows due w)), .sh (.lst [dR rows, dI v, dI due]), .sh (.lst [dR rows, dI due])] = .rt (.sh (.bl true)) e := by
    have he : gEq (dR (solF rows due w)) (.lst []) = some (.bl (solF rows due w).isEmpty) := by
      rw [gEq_nil (okN_rows _)]
      cases solF rows due w <;> rfl
    cases hq : (solF rows due w).isEmpty with
    | true =>
      rw [hq] at he
      exact ⟨_, by simp [sLast, he]; rfl⟩
    | false =>
      rw [hq] at he
      have hne2 : solF rows due w ≠ [] := fun z => by
        rw [z] at hq
        cases hq
      have hpos : 0 < (solF rows due w).length := List.length_pos_iff.mpr hne2
      have htd : fTd [dR rows, dI due, .int (((solF rows due w).length : Nat) - 1)] = .sh (.tup [.str "many", .bl true]) := told_many (fch_many F (by omega) (by omega) (by omega) hne2)
      have hsm : fSm [.tup [.str "many", .bl true], .tup [.str "many", .bl true]] = .sh (.bl true) := same_self 5 _ ⟨z2, fun x hx => by
        simp at hx
        rcases hx with rfl | rfl
        · exact ok_many
        · trivial⟩
      exact ⟨_, by simp [sLast, he, b0, b1, htd, hsm, z2]; rfl⟩
  obtain ⟨e, s6⟩ := s6
  exact ⟨e, by rw [sSeq_nx s1, sSeq_nx s2, sSeq_nx s3, sSeq_nx s4, sSeq_nx s5, s6]⟩
end
end K80
end

section
set_option Elab.async false
set_option linter.all false
set_option maxRecDepth 100000
set_option maxHeartbeats 2000000
namespace K80
open PySem PySem.Spec PyProof.Rows L2 Nm

/-! ### the kinds of tables, and their bounds -/
section
variable {α : Type} {rows : List (List Int)} {due v r : List Int} {w M : Nat}
theorem sum_bd {C : Int} (f : α → Int) : ∀ (l : List α), (∀ x ∈ l, f x ≤ C) → (l.map f).sum ≤ C * (l.length : Nat)
  | [], _ => by simp
  | x :: xs, h => by
    have ih := sum_bd f xs fun y hy => h y (List.mem_cons_of_mem _ hy)
    have h1 := h x List.mem_cons_self
    rw [List.map_cons, List.sum_cons, List.length_cons, Int.natCast_add, Int.mul_add]
    omega
theorem sum_le (f g : α → Int) : ∀ (l : List α), (∀ x ∈ l, f x ≤ g x) → (l.map f).sum ≤ (l.map g).sum
  | [], _ => by simp
  | x :: xs, h => by
    have ih := sum_le f g xs fun y hy => h y (List.mem_cons_of_mem _ hy)
    have h1 := h x List.mem_cons_self
    rw [List.map_cons, List.sum_cons, List.map_cons, List.sum_cons]
    omega
theorem getD_in {l : List Int} {i : Nat} (hi : i < l.length) : l.getD i 0 ∈ l := by
  rw [List.getD_eq_getElem?_getD, List.getElem?_eq_getElem hi]
  exact List.getElem_mem hi
theorem dot_le {A B : Int} (hA : 0 ≤ A) (hl : r.length = v.length) (hr : ∀ y ∈ r, 0 ≤ y ∧ y ≤ A) (hv : ∀ y ∈ v, 0 ≤ y ∧ y ≤ B) : dot r v ≤ A * B * (r.length : Nat) := by
  have h := sum_bd (C := A * B) (fun i => r.getD i 0 * v.getD i 0) (List.range r.length) fun i hi => by
    have hi := List.mem_range.mp hi
    have h1 := hr _ (getD_in hi)
    have h2 := hv _ (getD_in (l := v) (i := i) (by omega))
    exact Int.mul_le_mul h1.2 h2.2 h2.1 hA
  rw [List.length_range] at h
  exact h
/-- a table and a vector that the law draws -/
structure Tv (rows : List (List Int)) (v : List Int) (w M : Nat) : Prop where
  vt : Vt rows w
  vl : v.length = w
  hM : M ≤ 1000
  ndl : nd M w < fuel
  pw : (M + 1) ^ (w - 1) < sizeLine
  bd : ∀ j < w, ∃ i < rows.length, 0 < (colAt rows j).getD i 0 ∧ (tot rows v).getD i 0 + 2 < ((M : Int) + 1) * (colAt rows j).getD i 0
theorem Tv.fit (T : Tv rows v w M) (dl : due.length = rows.length) (h : (∀ x ∈ due, 0 ≤ x) → ∀ i, i < due.length → due.getD i 0 ≤ (tot rows v).getD i 0 + 2) : Fit rows v due w M :=
  ⟨T.vt, T.vl, dl, T.hM, T.ndl, T.pw, fun h0 j hj => by
    obtain ⟨i, hi, p1, p2⟩ := T.bd j hj
    have := h h0 i (by omega)
    exact ⟨i, hi, p1, by omega⟩⟩
theorem Vt.row (V : Vt rows w) (h : r ∈ rows) : r.length = w := V.tab.rect.2.2.2 _ h
theorem tot_get {i : Nat} (hi : i < rows.length) : (tot rows v).getD i 0 = dot rows[i] v := by
  unfold tot
  rw [List.getD_eq_getElem?_getD, List.getElem?_map, List.getElem?_eq_getElem hi]
  rfl
theorem nd_small (w : Nat) (h1 : 1 ≤ w) (h : w ≤ 4) : nd 100 w < fuel := by
  have : w = 1 ∨ w = 2 ∨ w = 3 ∨ w = 4 := by omega
  rcases this with rfl | rfl | rfl | rfl <;> decide +kernel
theorem pw_small (w : Nat) (h1 : 1 ≤ w) (h : w ≤ 4) : (100 + 1) ^ (w - 1) < sizeLine := by
  have : w = 1 ∨ w = 2 ∨ w = 3 ∨ w = 4 := by omega
  rw [sizeLine_eq]
  rcases this with rfl | rfl | rfl | rfl <;> decide +kernel
def bases : List Int := [7, 5, 4, 3, 2, 2, 2, 2]
theorem tv_small (V : Vt rows w) (hw : w ≤ 4) (hs : ∀ r ∈ rows, ∀ y ∈ r, y ≤ 9) (vl : v.length = w) (hv : ∀ x ∈ v, 0 ≤ x ∧ x < bases.getD (w - 1) 0) : Tv rows v w 100 := by
  have h1 := V.w1
  refine ⟨V, vl, by omega, nd_small w h1 hw, pw_small w h1 hw, fun j hj => ?_⟩
  obtain ⟨i, hi, hp⟩ := V.cols j hj
  refine ⟨i, hi, hp, ?_⟩
  rw [tot_get hi]
  have hr := V.row (List.getElem_mem hi)
  have hd := dot_le (r := rows[i]) (v := v) (A := 9) (B := bases.getD (w - 1) 0 - 1) (by omega) (by omega) (fun y hy => ⟨(V.tab.small _ (List.getElem_mem hi) y hy).1, hs _ (List.getElem_mem hi) y hy⟩) (fun y hy => by have := hv y hy; omega)
  rw [hr] at hd
  have hb : 9 * (bases.getD (w - 1) 0 - 1) * (w : Nat) ≤ 81 := by
    have : w = 1 ∨ w = 2 ∨ w = 3 ∨ w = 4 := by omega
    rcases this with rfl | rfl | rfl | rfl <;> decide
  omega
def fixT : List (List Int) := [[1000, 999, 1000], [0, 1000, 1]]
theorem vt_fix : Vt fixT 3 := by
  refine ⟨⟨⟨by decide, by decide, by decide, by decide⟩, by decide⟩, by decide, by decide, ?_⟩
  decide
theorem tv_fix (vl : v.length = 3) (hv : ∀ x ∈ v, 0 ≤ x ∧ x < bases.getD (3 - 1) 0) : Tv fixT v 3 100 := by
  refine ⟨vt_fix, vl, by omega, nd_small 3 (by omega) (by omega), pw_small 3 (by omega) (by omega), fun j hj => ?_⟩
  obtain ⟨a, b, c, rfl⟩ : ∃ a b c, v = [a, b, c] := by
    match v, vl with
    | [a, b, c], _ => exact ⟨a, b, c, rfl⟩
  have ha := hv a (by simp)
  have hb := hv b (by simp)
  have hc := hv c (by simp)
  have e : bases.getD (3 - 1) 0 = 4 := rfl
  rw [e] at ha hb hc
  have ht : (tot fixT [a, b, c]).getD 0 0 = 1000 * a + (999 * b + (1000 * c + 0)) := rfl
  refine ⟨0, by decide, ?_, ?_⟩
  · have : j = 0 ∨ j = 1 ∨ j = 2 := by omega
    rcases this with rfl | rfl | rfl <;> decide
  · rw [ht]
    have : 999 ≤ (colAt fixT j).getD 0 0 := by
      have : j = 0 ∨ j = 1 ∨ j = 2 := by omega
      rcases this with rfl | rfl | rfl <;> decide
    omega
def bit8 (a b c : Int) : List Int := (List.range 8).map fun j : Nat => if [a, b, c].contains (j : Int) = true then 1 else 0
theorem bit8_sum : ∀ a < 8, ∀ b < 8, ∀ c < 8, ((List.range 8).map fun i => (bit8 (a : Nat) (b : Nat) (c : Nat)).getD i 0).sum ≤ 3 := by decide +kernel
theorem vt_one {its : List Int} (hl : its.length = 8) (h : ∀ y ∈ its, 1 ≤ y ∧ y ≤ 2) : Vt [its] 8 := by
  refine ⟨⟨⟨by simp, by simp, by omega, by simp [hl]⟩, fun r hr y hy => ?_⟩, by omega, by omega, fun j hj => ⟨0, by simp, ?_⟩⟩
  · rw [List.mem_singleton.mp hr] at hy
    have := h y hy
    omega
  · show 0 < its.getD j 0
    have := h _ (getD_in (l := its) (i := j) (by omega))
    omega
theorem nd_eight : nd 8 8 < fuel := by decide +kernel
theorem tv_one {its : List Int} (hl : its.length = 8) (h : ∀ y ∈ its, 1 ≤ y ∧ y ≤ 2) {a b c : Int} (ha : 0 ≤ a ∧ a < 8) (hb : 0 ≤ b ∧ b < 8) (hc : 0 ≤ c ∧ c < 8) : Tv [its] (bit8 a b c) 8 8 := by
  refine ⟨vt_one hl h, rfl, by omega, nd_eight, by rw [sizeLine_eq]; decide +kernel, fun j hj => ⟨0, by simp, ?_, ?_⟩⟩
  · show 0 < its.getD j 0
    have := h _ (getD_in (l := its) (i := j) (by omega))
    omega
  · show dot its (bit8 a b c) + 2 < ((8 : Nat) + 1) * its.getD j 0
    have hj := h _ (getD_in (l := its) (i := j) (by omega))
    have hs := bit8_sum a.toNat (by omega) b.toNat (by omega) c.toNat (by omega)
    rw [Int.toNat_of_nonneg ha.1, Int.toNat_of_nonneg hb.1, Int.toNat_of_nonneg hc.1] at hs
    have hd : dot its (bit8 a b c) ≤ ((List.range 8).map fun i => 2 * (bit8 a b c).getD i 0).sum := by
      unfold dot
      rw [hl]
      refine sum_le _ _ _ fun i hi => ?_
      have hi := List.mem_range.mp hi
      have h1 := h _ (getD_in (l := its) (i := i) (by omega))
      have h2 : 0 ≤ (bit8 a b c).getD i 0 := by
        have hm := getD_in (l := bit8 a b c) (i := i) (by show i < 8; omega)
        unfold bit8 at hm ⊢
        obtain ⟨k, _, hk⟩ := List.mem_map.mp hm
        rw [← hk]
        split <;> omega
      exact Int.mul_le_mul_of_nonneg_right h1.2 h2
    have h2 : ((List.range 8).map fun i => 2 * (bit8 a b c).getD i 0).sum = 2 * ((List.range 8).map fun i => (bit8 a b c).getD i 0).sum := by
      generalize List.range 8 = l
      induction l with
      | nil => rfl
      | cons x xs ih =>
        rw [List.map_cons, List.sum_cons, List.map_cons, List.sum_cons, ih]
        omega
    have : ((8 : Nat) : Int) = 8 := rfl
    omega
end
end K80
end

section
set_option Elab.async false
set_option linter.all false
set_option maxRecDepth 100000
set_option maxHeartbeats 2000000
namespace K80
open PySem PySem.Spec PyProof.Rows L2 Nm

/-! ### the law's first part -/
abbrev fBt : List D → FR := frun 4 (m_law_bad_table fC)
abbrev fDg : List D → FR := frun 8 (m_law_digits fC)
def sBad : MS := (sSet 1 (mCall 1 fBt (mCons (mVar 0) mNil)))
def sPart : MS := (sSet 2 (mCall 1 fBp (mCons (mVar 1) mNil)))
def sGiven : MS := (sSetO 3 (mLc (gNm 4) (mItems (mVar 1)) mYes (mL (mCB gList (mCons (mVar 4) mNil))) [4]))
def sDues : MS := (sSet 5 (mIf (mB (mBin gIsN (mVar 2) (mC .non))) (mCB gTup (mCons (mC (.str "told")) (mCons (mC .non) mNil))) (mCB gTup (mCons (mC (.str "part")) (mCons (mVar 2) mNil)))))
def sChk : MS := (sFrz 3 (sIf (mOr (mNot (mB (mCall 2 fSm (mCons (mCall 2 fPt (mCons (mC (.int 0)) (mCons (mVar 3) mNil))) (mCons (mVar 5) mNil))))) (mOr (mNot (mB (mCall 2 fSm (mCons (mCall 2 fPt (mCons (mC (.int 1)) (mCons (mVar 3) mNil))) (mCons (mVar 5) mNil))))) (mB (mBin gNe (mVar 3) (mVar 1))))) (sRet (mC (.bl false))) sNx))
def sTb (fTb : List D → FR) : MS := (sSet 6 (mCall 2 fTb (mCons (mVar 0) (mCons (mC (.int 0)) mNil))))
def sCell : MS := (sSet 7 (mCall 2 fC (mCons (mVar 0) (mCons (mC (.int 6)) mNil))))
def sT1 : MS := (sIf (mB (mBin gEq (mBin gMod (mCB gInt (mCons (mVar 7) mNil)) (mC (.int 16))) (mC (.int 1)))) (sSet 6 (mL (mCB gLst (mCons (mL (mLc (gNm 8) (mRng1 (mCons (mC (.int 8)) mNil)) mYes (mBin gAdd (mC (.int 1)) (mBin gMod (mCB gInt (mCons (mBin gShr (mBin gDiv (mVar 7) (mC (.int 16))) (mVar 8)) mNil)) (mC (.int 2)))) [8])) mNil)))) sNx)
def sT2 : MS := (sIf (mB (mBin gEq (mBin gMod (mCB gInt (mCons (mVar 7) mNil)) (mC (.int 16))) (mC (.int 2)))) (sSet 6 (mL (mCB gLst (mCons (mL (mCB gLst (mCons (mC (.int 1000)) (mCons (mC (.int 999)) (mCons (mC (.int 1000)) mNil))))) (mCons (mL (mCB gLst (mCons (mC (.int 0)) (mCons (mC (.int 1000)) (mCons (mC (.int 1)) mNil))))) mNil))))) sNx)
def sVec : MS := (sSet 9 (mCall 4 fDg (mCons (mVar 0) (mCons (mC (.int 7)) (mCons (mCB gLen (mCons (mBin gIx (mVar 6) (mC (.int 0))) mNil)) (mCons (mBin gIx (mL (mCB gLst (mCons (mC (.int 7)) (mCons (mC (.int 5)) (mCons (mC (.int 4)) (mCons (mC (.int 3)) (mCons (mC (.int 2)) (mCons (mC (.int 2)) (mCons (mC (.int 2)) (mCons (mC (.int 2)) mNil)))))))))) (mBin gSub (mCB gLen (mCons (mBin gIx (mVar 6) (mC (.int 0))) mNil)) (mC (.int 1)))) mNil))))))
def sV8 : MS := (sIf (mB (mBin gEq (mCB gLen (mCons (mBin gIx (mVar 6) (mC (.int 0))) mNil)) (mC (.int 8)))) (sSetO 9 (mLc (gNm 8) (mRng1 (mCons (mC (.int 8)) mNil)) mYes (mCB gInt (mCons (mBin gIn (mVar 8) (mL (mCB gLst (mCons (mBin gMod (mCB gInt (mCons (mBin gDiv (mVar 7) (mC (.int 4096))) mNil)) (mC (.int 8))) (mCons (mBin gMod (mCB gInt (mCons (mBin gDiv (mVar 7) (mC (.int 32768))) mNil)) (mC (.int 8))) (mCons (mBin gMod (mCB gInt (mCons (mBin gDiv (mVar 7) (mC (.int 262144))) mNil)) (mC (.int 8))) mNil)))))) mNil)) [8])) sNx)
def sDue : MS := (sFrz 9 (sSetO 10 (mCallO 2 fLt (mCons (mVar 6) (mCons (mVar 9) mNil)))))
def sD1 : MS := (sIf (mB (mBin gEq (mBin gMod (mCB gInt (mCons (mBin gDiv (mVar 7) (mC (.int 16))) mNil)) (mC (.int 3))) (mC (.int 1)))) (sFrz 10 (sSetO 10 (mLc (gNm 11) (mRng1 (mCons (mCB gLen (mCons (mVar 10) mNil)) mNil)) mYes (mBin gAdd (mBin gIx (mVar 10) (mVar 11)) (mBin gMod (mCB gInt (mCons (mBin gShr (mVar 7) (mBin gAdd (mC (.int 7)) (mVar 11))) mNil)) (mC (.int 3)))) [11]))) sNx)
def sD2 : MS := (sIf (mB (mBin gEq (mBin gMod (mCB gInt (mCons (mBin gDiv (mVar 7) (mC (.int 16))) mNil)) (mC (.int 7))) (mC (.int 2)))) (sPut 10 (mBin gSub (mUn gNeg (mC (.int 1))) (mBin gMod (mCB gInt (mCons (mBin gDiv (mVar 7) (mC (.int 112))) mNil)) (mC (.int 3)))) (mUn gNeg (mC (.int 1)))) sNx)
theorem m_law_eq (fTb : List D → FR) : m_law fBt fBp fPt fSm fTb fC fDg fLt fLc fTo fWh fTd = sSeq sBad (sSeq sPart (sSeq sGiven (sSeq sDues (sSeq sChk (sSeq (sTb fTb) (sSeq sCell (sSeq sT1 (sSeq sT2 (sSeq sVec (sSeq sV8 (sSeq sDue (sSeq sD1 (sSeq sD2
  (sSeq sFound (sSeq sKept (sSeq sTot (sSeq sHand (sSeq sTold sLast)))))))))))))))))) := rfl
section
variable {ns : List Int} {rows : List (List Int)} {due v : List Int} {w M : Nat} {c1 c2 c3 c5 c9 c10 : Cell}
theorem parts_is (t : Nat) : parts.getD t .non = .non ∨ ∃ z, parts.getD t .non = .str z ∧ okEq (.str z) = true := by
  by_cases ht : t < 23
  · have h : ∀ p ∈ parts, p = .non ∨ ∃ z, p = .str z ∧ okEq (.str z) = true := by
      have k1 : okEq (.str "rows") = true := by kernel_rfl
      have k2 : okEq (.str "entry") = true := by kernel_rfl
      have k3 : okEq (.str "column") = true := by kernel_rfl
      intro p hp
      simp only [parts, List.mem_cons, List.not_mem_nil, or_false] at hp
      rcases hp with h | h | h | h | h | h | h | h | h | h | h | h | h | h | h | h | h | h | h | h | h | h | h <;> subst h <;> first | exact .inl rfl | exact .inr ⟨_, rfl, k1⟩ | exact .inr ⟨_, rfl, k2⟩ | exact .inr ⟨_, rfl, k3⟩
    have hl : parts.length = 23 := rfl
    rw [List.getD_eq_getElem?_getD, List.getElem?_eq_getElem (by omega)]
    exact h _ (List.getElem_mem (by omega))
  · left
    rw [List.getD_eq_getElem?_getD, List.getElem?_eq_none (by show 23 ≤ t; omega)]
    rfl
theorem bad_part : ∃ t, ∀ m : MS, sSeq sBad (sSeq sPart (sSeq sGiven (sSeq sDues (sSeq sChk m)))) (env0 15 [dF ns]) = m [.sh (dF ns), .sh (dR (bads.getD t [])), .sh (parts.getD t .non), .sh (dR (bads.getD t [])), .no, .sh (dueP (parts.getD t .non)), .no, .no, .no, .no, .no, .no, .no, .no, .no] := by
  obtain ⟨t, ht, hb⟩ := bad_table_is ns
  have hok := bad_ok t ht
  refine ⟨t, ?_⟩
  generalize hbt : bads.getD t [] = bt at *
  have hz : bt.length ≤ 1000 := by
    have hsz : ∀ t, t < 23 → (bads.getD t []).length ≤ 3 := by decide
    have := hsz t ht
    rw [hbt] at this
    omega
  have hp := parts_is t
  have h1 := hok.part
  have h2 := hok.p0
  have h3 := hok.p1
  rw [hbt] at h1 h2 h3
  generalize parts.getD t .non = p at *
  have z2 : (2 : Nat) ≤ sizeLine := by rw [sizeLine_eq]; omega
  have hb' : fBt [dF ns] = .ow (bt.map dI) := hb
  have e0 : env0 15 [dF ns] = [.sh (dF ns), .no, .no, .no, .no, .no, .no, .no, .no, .no, .no, .no, .no, .no, .no] := rfl
  have s1 : sBad (env0 15 [dF ns]) = .nx [.sh (dF ns), .sh (dR bt), .no, .no, .no, .no, .no, .no, .no, .no, .no, .no, .no, .no, .no] := by
    rw [e0]
    simp [sBad, hb']
  have s2 : sPart [.sh (dF ns), .sh (dR bt), .no, .no, .no, .no, .no, .no, .no, .no, .no, .no, .no, .no, .no] = .nx [.sh (dF ns), .sh (dR bt), .sh p, .no, .no, .no, .no, .no, .no, .no, .no, .no, .no, .no, .no] := by
    simp [sPart, h1]
  have s3 : sGiven [.sh (dF ns), .sh (dR bt), .sh p, .no, .no, .no, .no, .no, .no, .no, .no, .no, .no, .no, .no] = .nx [.sh (dF ns), .sh (dR bt), .sh p, .ow (bt.map dI), .no, .no, .no, .no, .no, .no, .no, .no, .no, .no, .no] := by
    have k2 := runLc_mapF (g := gNm 4) (t := mYes) (el := mL (mCB gList (mCons (mVar 4) mNil))) (vs := [4]) (e := [.sh (dF ns), .sh (dR bt), .sh p, .no, .no, .no, .no, .no, .no, .no, .no, .no, .no, .no, .no]) dI dI bt fun r _ => by simp [stepLc]
    unfold sGiven sSetO
    rw [lc_at (mi := mItems (mVar 1)) (env := [.sh (dF ns), .sh (dR bt), .sh p, .no, .no, .no, .no, .no, .no, .no, .no, .no, .no, .no, .no]) rfl (by rw [List.length_map, sizeLine_eq]; omega) rfl k2 rfl]
    rfl
  have s4 : sDues [.sh (dF ns), .sh (dR bt), .sh p, .ow (bt.map dI), .no, .no, .no, .no, .no, .no, .no, .no, .no, .no, .no] = .nx [.sh (dF ns), .sh (dR bt), .sh p, .ow (bt.map dI), .no, .sh (dueP p), .no, .no, .no, .no, .no, .no, .no, .no, .no] := by
    rcases hp with rfl | ⟨z, rfl, _⟩ <;> simp [sDues, z2, dueP]
  have pd : PD 1 (dueP p) := by
    rcases hp with rfl | ⟨z, rfl, hz⟩
    · exact ⟨z2, fun x hx => by
        simp at hx
        rcases hx with rfl | rfl
        · exact ok_told
        · trivial⟩
    · exact ⟨z2, fun x hx => by
        simp at hx
        rcases hx with rfl | rfl
        · show okEq (.str "part") = true
          kernel_rfl
        · exact hz⟩
  have hsm : fSm [dueP p, dueP p] = .sh (.bl true) := same_self 5 _ pd.up.up.up.up
  have hg := gNe_self (okN_rows bt)
  have s5 : sChk [.sh (dF ns), .sh (dR bt), .sh p, .ow (bt.map dI), .no, .sh (dueP p), .no, .no, .no, .no, .no, .no, .no, .no, .no] = .nx [.sh (dF ns), .sh (dR bt), .sh p, .sh (dR bt), .no, .sh (dueP p), .no, .no, .no, .no, .no, .no, .no, .no, .no] := by
    simp [sChk, h2, h3, hsm, hg]
  intro m
  rw [sSeq_nx s1, sSeq_nx s2, sSeq_nx s3, sSeq_nx s4, sSeq_nx s5]
end
end K80
end

section
set_option Elab.async false
set_option linter.all false
set_option maxRecDepth 100000
set_option maxHeartbeats 2000000
namespace K80
open PySem PySem.Spec PyProof.Rows L2 Nm

section
variable {ns : List Int} {rows : List (List Int)} {due v : List Int} {w M : Nat} {s c1 c2 c3 c5 c9 c10 : Cell} {c : Int}
/-- what the law's table is: drawn, or eight items, or the fixed one -/
def Kt (rows : List (List Int)) (w : Nat) : Prop :=
  (Vt rows w ∧ w ≤ 4 ∧ ∀ r ∈ rows, ∀ y ∈ r, y ≤ 9) ∨ (w = 8 ∧ ∃ its : List Int, rows = [its] ∧ its.length = 8 ∧ ∀ y ∈ its, 1 ≤ y ∧ y ≤ 2) ∨ (w = 3 ∧ rows = fixT)
theorem at_head (d : D) (ds : List D) : L2.atI (d :: ds) 0 = some d := by
  show L2.atI (d :: ds) ((0 : Nat) : Int) = some d
  exact atI_nat rfl
theorem t1_is (hK : Kt rows w) : ∃ rows2 w2, Kt rows2 w2 ∧ sT1 [s, c1, c2, c3, .no, c5, .sh (dR rows), .sh (.int c), .no, .no, .no, .no, .no, .no, .no] = .nx [s, c1, c2, c3, .no, c5, .sh (dR rows2), .sh (.int c), .no, .no, .no, .no, .no, .no, .no] := by
  have hm : cMod c 16 = true := mod_of (by decide)
  by_cases h : c % 16 = 1
  · have hd : cDiv c 16 = true := div_of (by decide) (by decide)
    have k2 := runLc_mapF (g := gNm 8) (t := mYes) (el := mBin gAdd (mC (.int 1)) (mBin gMod (mCB gInt (mCons (mBin gShr (mBin gDiv (mVar 7) (mC (.int 16))) (mVar 8)) mNil)) (mC (.int 2)))) (vs := [8]) (e := [s, c1, c2, c3, .no, c5, .sh (dR rows), .sh (.int c), .no, .no, .no, .no, .no, .no, .no])
      (fun i : Nat => D.int (i : Nat)) (fun i : Nat => D.int (1 + c / 16 / 2 ^ i % 2)) (List.range 8) fun i hi => by
        have h1 : cShr (c / 16) (i : Nat) = true := shr_of (by omega)
        have h2 : ∀ x, cMod x 2 = true := fun x => mod_of (by decide)
        simp [stepLc, hd, h1, h2]
    have hl := lc_at (mi := mRng1 (mCons (mC (.int 8)) mNil)) (env := [s, c1, c2, c3, .no, c5, .sh (dR rows), .sh (.int c), .no, .no, .no, .no, .no, .no, .no]) (rngN_at (n := 8) rfl (by omega)) (by rw [List.length_map, List.length_range, sizeLine_eq]; omega) rfl k2 rfl
    refine ⟨[(List.range 8).map fun i : Nat => 1 + c / 16 / 2 ^ i % 2], 8, .inr (.inl ⟨rfl, _, rfl, rfl, fun y hy => ?_⟩), ?_⟩
    · obtain ⟨i, _, rfl⟩ := List.mem_map.mp hy
      omega
    · have z1 : (1 : Nat) ≤ sizeLine := by rw [sizeLine_eq]; omega
      have hmap : (List.range 8).map (fun i : Nat => D.int (1 + c / 16 / 2 ^ i % 2)) = ((List.range 8).map fun i : Nat => 1 + c / 16 / 2 ^ i % 2).map D.int := by rw [List.map_map]; rfl
      rw [hmap] at hl
      simp [sT1, -mLc, -mRng1, -List.map_map, hm, h, hl, z1]
  · exact ⟨rows, w, hK, by simp [sT1, hm, h]⟩
theorem t2_is (hK : Kt rows w) : ∃ rows2 w2, Kt rows2 w2 ∧ sT2 [s, c1, c2, c3, .no, c5, .sh (dR rows), .sh (.int c), .no, .no, .no, .no, .no, .no, .no] = .nx [s, c1, c2, c3, .no, c5, .sh (dR rows2), .sh (.int c), .no, .no, .no, .no, .no, .no, .no] := by
  have hm : cMod c 16 = true := mod_of (by decide)
  have z2 : (2 : Nat) ≤ sizeLine := by rw [sizeLine_eq]; omega
  have z3 : (3 : Nat) ≤ sizeLine := by rw [sizeLine_eq]; omega
  by_cases h : c % 16 = 2
  · exact ⟨fixT, 3, .inr (.inr ⟨rfl, rfl⟩), by simp [sT2, hm, h, z2, z3, fixT]⟩
  · exact ⟨rows, w, hK, by simp [sT2, hm, h]⟩
theorem Kt.vt (h : Kt rows w) : Vt rows w := by
  rcases h with h | ⟨rfl, its, rfl, h1, h2⟩ | ⟨rfl, rfl⟩
  · exact h.1
  · exact vt_one h1 h2
  · exact vt_fix
theorem bases_get {w : Nat} (h1 : 1 ≤ w) (h8 : w ≤ 8) : ∃ b : Nat, 0 < b ∧ b ≤ 7 ∧ bases.getD (w - 1) 0 = (b : Int) ∧ L2.atI (bases.map D.int) ((w : Int) - 1) = some (.int (b : Nat)) := by
  have : w = 1 ∨ w = 2 ∨ w = 3 ∨ w = 4 ∨ w = 5 ∨ w = 6 ∨ w = 7 ∨ w = 8 := by omega
  rcases this with rfl | rfl | rfl | rfl | rfl | rfl | rfl | rfl
  · exact ⟨7, by omega, by omega, rfl, rfl⟩
  · exact ⟨5, by omega, by omega, rfl, rfl⟩
  · exact ⟨4, by omega, by omega, rfl, rfl⟩
  · exact ⟨3, by omega, by omega, rfl, rfl⟩
  · exact ⟨2, by omega, by omega, rfl, rfl⟩
  · exact ⟨2, by omega, by omega, rfl, rfl⟩
  · exact ⟨2, by omega, by omega, rfl, rfl⟩
  · exact ⟨2, by omega, by omega, rfl, rfl⟩
theorem vec_is (hK : Kt rows w) : ∃ v : List Int, v.length = w ∧ (∀ x ∈ v, 0 ≤ x ∧ x < bases.getD (w - 1) 0) ∧
    sVec [.sh (dF ns), c1, c2, c3, .no, c5, .sh (dR rows), .sh (.int c), .no, .no, .no, .no, .no, .no, .no] = .nx [.sh (dF ns), c1, c2, c3, .no, c5, .sh (dR rows), .sh (.int c), .no, .sh (dI v), .no, .no, .no, .no, .no] := by
  have V := hK.vt
  obtain ⟨b, b0, b7, e1, e2⟩ := bases_get V.w1 V.w8
  obtain ⟨r, rs, rfl, hr⟩ := at0 V.tab.rect
  obtain ⟨ds, hd, hl, hb⟩ := digits_is ns (at_ := 7) (count := w) (base := b) (by omega) (by have := V.w8; omega) b0 (by omega)
  have hd' : fDg [dF ns, .int 7, .int (w : Nat), .int (b : Nat)] = .ow (ds.map D.int) := hd
  refine ⟨ds, hl, fun x hx => by rw [e1]; exact hb x hx, ?_⟩
  have z8 : (8 : Nat) ≤ sizeLine := by rw [sizeLine_eq]; omega
  have a0 : L2.atI (dI r :: rs.map dI) 0 = some (dI r) := at_head _ _
  have e2' : L2.atI [D.int 7, D.int 5, D.int 4, D.int 3, D.int 2, D.int 2, D.int 2, D.int 2] ((w : Int) - 1) = some (.int (b : Nat)) := e2
  simp [sVec, a0, hr, e2', hd', z8]
theorem v8_is (hK : Kt rows w) (vl : v.length = w) (hv : ∀ x ∈ v, 0 ≤ x ∧ x < bases.getD (w - 1) 0) : ∃ v2 M c9, (c9 = .ow (v2.map D.int) ∨ c9 = .sh (dI v2)) ∧ Tv rows v2 w M ∧
    sV8 [s, c1, c2, c3, .no, c5, .sh (dR rows), .sh (.int c), .no, .sh (dI v), .no, .no, .no, .no, .no] = .nx [s, c1, c2, c3, .no, c5, .sh (dR rows), .sh (.int c), .no, c9, .no, .no, .no, .no, .no] := by
  obtain ⟨r, rs, hrr, hr⟩ := at0 hK.vt.tab.rect
  have a0 : L2.atI (rows.map dI) 0 = some (dI r) := by rw [hrr]; exact at_head _ _
  by_cases h8 : w = 8
  · rcases hK with h | ⟨_, its, rfl, h1, h2⟩ | ⟨h, _⟩
    · have := h.2.1
      omega
    · have ha : 0 ≤ c / 4096 % 8 ∧ c / 4096 % 8 < 8 := by omega
      have hb : 0 ≤ c / 32768 % 8 ∧ c / 32768 % 8 < 8 := by omega
      have hc : 0 ≤ c / 262144 % 8 ∧ c / 262144 % 8 < 8 := by omega
      have k2 := runLc_mapF (g := gNm 8) (t := mYes) (el := mCB gInt (mCons (mBin gIn (mVar 8) (mL (mCB gLst (mCons (mBin gMod (mCB gInt (mCons (mBin gDiv (mVar 7) (mC (.int 4096))) mNil)) (mC (.int 8))) (mCons (mBin gMod (mCB gInt (mCons (mBin gDiv (mVar 7) (mC (.int 32768))) mNil)) (mC (.int 8))) (mCons (mBin gMod (mCB gInt (mCons (mBin gDiv (mVar 7) (mC (.int 262144))) mNil)) (mC (.int 8))) mNil)))))) mNil)) (vs := [8]) (e := [s, c1, c2, c3, .no, c5, .sh (dR [its]), .sh (.int c), .no, .sh (dI v), .no, .no, .no, .no, .no])
        (fun i : Nat => D.int (i : Nat)) (fun i : Nat => D.int (if [c / 4096 % 8, c / 32768 % 8, c / 262144 % 8].contains (i : Int) = true then 1 else 0)) (List.range 8) fun i hi => by
          have m1 : ∀ x, cMod x 8 = true := fun x => mod_of (by decide)
          have d1 : cDiv c 4096 = true := div_of (by decide) (by decide)
          have d2 : cDiv c 32768 = true := div_of (by decide) (by decide)
          have d3 : cDiv c 262144 = true := div_of (by decide) (by decide)
          have z3 : (3 : Nat) ≤ sizeLine := by rw [sizeLine_eq]; omega
          have ht : toIs [D.int (c / 4096 % 8), D.int (c / 32768 % 8), D.int (c / 262144 % 8)] = some [c / 4096 % 8, c / 32768 % 8, c / 262144 % 8] := rfl
          simp [stepLc, m1, d1, d2, d3, z3, ht, -List.contains_cons]
      have hl := lc_at (mi := mRng1 (mCons (mC (.int 8)) mNil)) (env := [s, c1, c2, c3, .no, c5, .sh (dR [its]), .sh (.int c), .no, .sh (dI v), .no, .no, .no, .no, .no]) (rngN_at (n := 8) rfl (by omega)) (by rw [List.length_map, List.length_range, sizeLine_eq]; omega) rfl k2 rfl
      refine ⟨bit8 (c / 4096 % 8) (c / 32768 % 8) (c / 262144 % 8), 8, _, .inl rfl, by rw [h8]; exact tv_one h1 h2 ha hb hc, ?_⟩
      have hmap : (List.range 8).map (fun i : Nat => D.int (if [c / 4096 % 8, c / 32768 % 8, c / 262144 % 8].contains (i : Int) = true then 1 else 0)) = (bit8 (c / 4096 % 8) (c / 32768 % 8) (c / 262144 % 8)).map D.int := by unfold bit8; rw [List.map_map]; rfl
      rw [hmap] at hl
      have hr8 : r.length = 8 := by omega
      simp [sV8, -mLc, -mRng1, -List.map_map, a0, hr8, hl, -List.map_cons]
    · omega
  · have hne : ¬ ((r.length : Nat) : Int) = 8 := by omega
    refine ⟨v, 100, _, .inr rfl, ?_, by simp [sV8, a0, hne, -List.map_cons]⟩
    rcases hK with h | ⟨h, _⟩ | ⟨rfl, rfl⟩
    · exact tv_small h.1 h.2.1 h.2.2 vl hv
    · exact absurd h h8
    · exact tv_fix vl hv
end
end K80
end

section
set_option Elab.async false
set_option linter.all false
set_option maxRecDepth 100000
set_option maxHeartbeats 2000000
namespace K80
open PySem PySem.Spec PyProof.Rows L2 Nm

section
variable {ns : List Int} {rows : List (List Int)} {due v : List Int} {w M : Nat} {s c1 c2 c3 c5 c9 c10 : Cell} {c : Int}
theorem due_is (V : Vt rows w) (vl : v.length = w) (h9 : c9 = .ow (v.map D.int) ∨ c9 = .sh (dI v)) :
    sDue [s, c1, c2, c3, .no, c5, .sh (dR rows), .sh (.int c), .no, c9, .no, .no, .no, .no, .no] = .nx [s, c1, c2, c3, .no, c5, .sh (dR rows), .sh (.int c), .no, .sh (dI v), .ow ((tot rows v).map D.int), .no, .no, .no, .no] := by
  have hz : rows.length ≤ 1000 := V.tab.rect.2.1
  have ht : fLt [dR rows, dI v] = .ow ((tot rows v).map D.int) := law_totals_is hz (fun r hr => ⟨by rw [V.row hr, vl], V.tab.small r hr⟩) (by have := V.w8; omega)
  rcases h9 with rfl | rfl <;> simp [sDue, ht]
theorem d1_is (hl : due.length ≤ 1000) : ∃ due2 : List Int, due2.length = due.length ∧ (∀ i, i < due.length → due2.getD i 0 ≤ due.getD i 0 + 2) ∧
    sD1 [s, c1, c2, c3, .no, c5, .sh (dR rows), .sh (.int c), .no, .sh (dI v), .ow (due.map D.int), .no, .no, .no, .no] = .nx [s, c1, c2, c3, .no, c5, .sh (dR rows), .sh (.int c), .no, .sh (dI v), .ow (due2.map D.int), .no, .no, .no, .no] := by
  have hd : cDiv c 16 = true := div_of (by decide) (by decide)
  have hm : ∀ x, cMod x 3 = true := fun x => mod_of (by decide)
  by_cases h : c / 16 % 3 = 1
  · have k2 := runLc_mapF (g := gNm 11) (t := mYes) (el := mBin gAdd (mBin gIx (mVar 10) (mVar 11)) (mBin gMod (mCB gInt (mCons (mBin gShr (mVar 7) (mBin gAdd (mC (.int 7)) (mVar 11))) mNil)) (mC (.int 3)))) (vs := [11])
      (e := [s, c1, c2, c3, .no, c5, .sh (dR rows), .sh (.int c), .no, .sh (dI v), .sh (dI due), .no, .no, .no, .no]) (fun i : Nat => D.int (i : Nat)) (fun i : Nat => D.int (due.getD i 0 + c / 2 ^ (7 + (i : Int)).toNat % 3)) (List.range due.length) fun i hi => by
        have hi' : i < due.length := List.mem_range.mp hi
        have h1 : cShr c (7 + (i : Nat)) = true := shr_of (by omega)
        simp [stepLc, hm, h1, hi', L2.atI, ixN]
    have hl2 := lc_at (mi := mRng1 (mCons (mCB gLen (mCons (mVar 10) mNil)) mNil)) (env := [s, c1, c2, c3, .no, c5, .sh (dR rows), .sh (.int c), .no, .sh (dI v), .sh (dI due), .no, .no, .no, .no]) (e := [s, c1, c2, c3, .no, c5, .sh (dR rows), .sh (.int c), .no, .sh (dI v), .sh (dI due), .no, .no, .no, .no]) (rngN_at (n := due.length) (by simp) (by omega)) (by rw [List.length_map, List.length_range, sizeLine_eq]; omega) rfl k2 rfl
    refine ⟨(List.range due.length).map fun i : Nat => due.getD i 0 + c / 2 ^ (7 + (i : Int)).toNat % 3, by simp, fun i hi => ?_, ?_⟩
    · rw [getD_map_range _ _ _ _ hi]
      omega
    · have hmap : (List.range due.length).map (fun i : Nat => D.int (due.getD i 0 + c / 2 ^ (7 + (i : Int)).toNat % 3)) = ((List.range due.length).map fun i : Nat => due.getD i 0 + c / 2 ^ (7 + (i : Int)).toNat % 3).map D.int := by rw [List.map_map]; rfl
      rw [hmap] at hl2
      simp [sD1, -mLc, -mRng1, -List.map_map, hd, hm, h, hl2]
  · exact ⟨due, rfl, fun i _ => by omega, by simp [sD1, hd, hm, h]⟩
theorem d2_is (hne : due ≠ []) : ∃ due2 : List Int, due2.length = due.length ∧ ((∀ x ∈ due2, 0 ≤ x) → due2 = due) ∧
    sD2 [s, c1, c2, c3, .no, c5, .sh (dR rows), .sh (.int c), .no, .sh (dI v), .ow (due.map D.int), .no, .no, .no, .no] = .nx [s, c1, c2, c3, .no, c5, .sh (dR rows), .sh (.int c), .no, .sh (dI v), .ow (due2.map D.int), .no, .no, .no, .no] := by
  have hd : cDiv c 16 = true := div_of (by decide) (by decide)
  have hd2 : cDiv c 112 = true := div_of (by decide) (by decide)
  have hm : ∀ x, cMod x 7 = true := fun x => mod_of (by decide)
  have hm3 : ∀ x, cMod x 3 = true := fun x => mod_of (by decide)
  by_cases h : c / 16 % 7 = 2
  · have hp : 0 < due.length := List.length_pos_iff.mpr hne
    have hix : ixN due.length (-1) = some (due.length - 1) := by
      unfold ixN
      simp
      omega
    refine ⟨due.set (due.length - 1) (-1 - c / 112 % 3), by simp, fun h0 => ?_, ?_⟩
    · have := h0 (-1 - c / 112 % 3) (by
        refine List.mem_iff_getElem.mpr ⟨due.length - 1, by simp; omega, by simp⟩)
      omega
    · simp [sD2, hd, hd2, hm, hm3, h, hix, List.map_set]
  · exact ⟨due, rfl, fun _ => rfl, by simp [sD2, hd, hm, h]⟩
theorem law_true {fTb : List D → FR} (hT : ∃ rows w, fTb [dF ns, .int 0] = .ow (rows.map dI) ∧ Vt rows w ∧ w ≤ 4 ∧ ∀ r ∈ rows, ∀ y ∈ r, y ≤ 9) :
    frun 15 (m_law fBt fBp fPt fSm fTb fC fDg fLt fLc fTo fWh fTd) [dF ns] = .sh (.bl true) := by
  obtain ⟨rows, w, hT, V, hw, hy⟩ := hT
  obtain ⟨t, hA⟩ := bad_part (ns := ns)
  obtain ⟨c, hc⟩ := cell_is ns 6 (by omega)
  have hc' : fC [dF ns, .int 6] = .sh (.int c) := hc
  have sB : sTb fTb [.sh (dF ns), .sh (dR (bads.getD t [])), .sh (parts.getD t .non), .sh (dR (bads.getD t [])), .no, .sh (dueP (parts.getD t .non)), .no, .no, .no, .no, .no, .no, .no, .no, .no] =
      .nx [.sh (dF ns), .sh (dR (bads.getD t [])), .sh (parts.getD t .non), .sh (dR (bads.getD t [])), .no, .sh (dueP (parts.getD t .non)), .sh (dR rows), .no, .no, .no, .no, .no, .no, .no, .no] := by
    simp [sTb, hT]
  have sC : sCell [.sh (dF ns), .sh (dR (bads.getD t [])), .sh (parts.getD t .non), .sh (dR (bads.getD t [])), .no, .sh (dueP (parts.getD t .non)), .sh (dR rows), .no, .no, .no, .no, .no, .no, .no, .no] =
      .nx [.sh (dF ns), .sh (dR (bads.getD t [])), .sh (parts.getD t .non), .sh (dR (bads.getD t [])), .no, .sh (dueP (parts.getD t .non)), .sh (dR rows), .sh (.int c), .no, .no, .no, .no, .no, .no, .no] := by
    simp [sCell, hc']
  obtain ⟨r1, w1, K1, e1⟩ := t1_is (c := c) (s := .sh (dF ns)) (c1 := .sh (dR (bads.getD t []))) (c2 := .sh (parts.getD t .non)) (c3 := .sh (dR (bads.getD t []))) (c5 := .sh (dueP (parts.getD t .non))) (.inl ⟨V, hw, hy⟩)
  obtain ⟨r2, w2, K2, e2⟩ := t2_is (c := c) (s := .sh (dF ns)) (c1 := .sh (dR (bads.getD t []))) (c2 := .sh (parts.getD t .non)) (c3 := .sh (dR (bads.getD t []))) (c5 := .sh (dueP (parts.getD t .non))) K1
  obtain ⟨v, vl, vb, e3⟩ := vec_is (ns := ns) (c := c) (c1 := .sh (dR (bads.getD t []))) (c2 := .sh (parts.getD t .non)) (c3 := .sh (dR (bads.getD t []))) (c5 := .sh (dueP (parts.getD t .non))) K2
  obtain ⟨v2, M, c9, h9, T, e4⟩ := v8_is (c := c) (s := .sh (dF ns)) (c1 := .sh (dR (bads.getD t []))) (c2 := .sh (parts.getD t .non)) (c3 := .sh (dR (bads.getD t []))) (c5 := .sh (dueP (parts.getD t .non))) K2 vl vb
  have e5 := due_is (c := c) (s := .sh (dF ns)) (c1 := .sh (dR (bads.getD t []))) (c2 := .sh (parts.getD t .non)) (c3 := .sh (dR (bads.getD t []))) (c5 := .sh (dueP (parts.getD t .non))) T.vt T.vl h9
  have ht : (tot r2 v2).length = r2.length := by simp [tot]
  have hz : r2.length ≤ 1000 := T.vt.tab.rect.2.1
  have hp : 0 < r2.length := List.length_pos_iff.mpr T.vt.tab.rect.1
  obtain ⟨d1, l1, b1, e6⟩ := d1_is (c := c) (v := v2) (rows := r2) (s := .sh (dF ns)) (c1 := .sh (dR (bads.getD t []))) (c2 := .sh (parts.getD t .non)) (c3 := .sh (dR (bads.getD t []))) (c5 := .sh (dueP (parts.getD t .non))) (due := tot r2 v2) (by omega)
  obtain ⟨d2, l2, b2, e7⟩ := d2_is (c := c) (v := v2) (rows := r2) (s := .sh (dF ns)) (c1 := .sh (dR (bads.getD t []))) (c2 := .sh (parts.getD t .non)) (c3 := .sh (dR (bads.getD t []))) (c5 := .sh (dueP (parts.getD t .non))) (due := d1) (by rw [← List.length_pos_iff]; omega)
  have F : Fit r2 v2 d2 w2 M := T.fit (by omega) fun h0 i hi => by
    have := b1 i (by omega)
    rw [b2 h0]
    exact this
  obtain ⟨e, eL⟩ := last_part (c1 := .sh (dR (bads.getD t []))) (c2 := .sh (parts.getD t .non)) (c3 := .sh (dR (bads.getD t []))) (c5 := .sh (dueP (parts.getD t .non))) (c7 := .sh (.int c)) (s := .sh (dF ns)) F (by rw [← List.length_pos_iff]; omega) (.inl rfl) (.inr rfl) fun r hr => ⟨by rw [T.vt.row hr, T.vl], T.vt.tab.small r hr⟩
  unfold frun
  rw [m_law_eq, hA, sSeq_nx sB, sSeq_nx sC, sSeq_nx e1, sSeq_nx e2, sSeq_nx e3, sSeq_nx e4, sSeq_nx e5, sSeq_nx e6, sSeq_nx e7, eL]
  rfl
end
end K80
end

section
set_option Elab.async false
set_option linter.all false
set_option maxRecDepth 100000
set_option maxHeartbeats 2000000
namespace K80
open PySem PySem.Spec PyProof.Rows L2 Nm

/-! ### a new list of new lists -/
section
variable {K : PySem.W.Frag} {G0 H0 HF G H : Hp} {σ : L2.St} {env : En} {p l : Addr} {o o' : HO} {as : List Addr} {rows : List (List Int)}
theorem absorb (R : RepS K G0 HF G H σ env) (hp : H p = some o) (gp : G p = none) (fp : HF p = none) (ne : ∀ (j : Nat) (es : List D), env[j]? = some (.ow es) → σ[j]? ≠ some (some (.ref p))) : RepS K G0 (upd HF p o) G H σ env := by
  refine ⟨⟨R.gr.gg, fun a u q => ?_, R.gh, fun a u q => ?_⟩, R.len, fun i c e1 => ?_, R.dis⟩
  · by_cases na : a = p
    · subst na
      rw [upd_same] at q
      rw [hp]
      exact q
    · rw [upd_ne na] at q
      exact R.gr.hh a u q
  · have na : a ≠ p := fun z => by
      rw [z, gp] at q
      cases q
    rw [upd_ne na]
    exact R.gr.nw a u q
  · obtain ⟨w, h1, h2⟩ := R.rep i c e1
    refine ⟨w, h1, ?_⟩
    cases c with
    | no => trivial
    | sh d => exact h2
    | ow fs =>
      obtain ⟨m, ys, rfl, hm, gm, hm0, rm⟩ := h2
      have nm : m ≠ p := fun z => ne i fs e1 (by rw [h1, z])
      exact ⟨m, ys, rfl, hm, gm, by rw [upd_ne nm]; exact hm0, rm⟩
theorem own_free (R : RepS K G0 HF G H σ env) (hp : HF p = some o) (g0 : G0 p = none) : G p = none := by
  cases q : G p with
  | none => rfl
  | some u =>
    rcases R.gr.nw p u q with z | z
    · rw [g0] at z
      cases z
    · rw [hp] at z
      cases z
theorem modify (R : RepS K G0 HF G H σ env) (hp : HF p = some o) (g0 : G0 p = none) : RepS K G0 (upd HF p o') G (upd H p o') σ env := by
  have gl := own_free R hp g0
  have nG : ∀ {a : Addr} {u : HO}, G a = some u → a ≠ p := fun {a u} q z => by
    rw [z, gl] at q
    cases q
  refine ⟨⟨R.gr.gg, fun a u q => ?_, fun a u q => ?_, fun a u q => ?_⟩, R.len, fun i c e1 => ?_, R.dis⟩
  · by_cases na : a = p
    · subst na
      rw [upd_same] at q ⊢
      exact q
    · rw [upd_ne na] at q ⊢
      exact R.gr.hh a u q
  · rw [upd_ne (nG q)]
    exact R.gh a u q
  · rw [upd_ne (nG q)]
    exact R.gr.nw a u q
  · obtain ⟨w, h1, h2⟩ := R.rep i c e1
    refine ⟨w, h1, ?_⟩
    cases c with
    | no => trivial
    | sh d => exact h2
    | ow fs =>
      obtain ⟨m, ys, rfl, hm, gm, hm0, rm⟩ := h2
      have nm : m ≠ p := fun z => by
        rw [z, hp] at hm0
        cases hm0
      exact ⟨m, ys, rfl, by rw [upd_ne nm]; exact hm, gm, by rw [upd_ne nm]; exact hm0, rm⟩
theorem unframes (R : RepS K G0 HF G H σ env) (hs : Same H0 HF) : RepS K G0 H0 G H σ env := by
  refine ⟨⟨R.gr.gg, hs.trans R.gr.hh, R.gh, fun a u q => (R.gr.nw a u q).imp id hs.free⟩, R.len, fun i c e1 => ?_, R.dis⟩
  obtain ⟨w, h1, h2⟩ := R.rep i c e1
  refine ⟨w, h1, ?_⟩
  cases c with
  | no => trivial
  | sh d => exact h2
  | ow fs =>
    obtain ⟨m, ys, rfl, hm, gm, hm0, rm⟩ := h2
    exact ⟨m, ys, rfl, hm, gm, hs.free hm0, rm⟩
theorem nodup_inj {α : Type} : ∀ {as : List α}, as.Nodup → ∀ {i j : Nat} (hi : i < as.length) (hj : j < as.length), as[i] = as[j] → i = j
  | [], _, _, _, hi, _, _ => by cases hi
  | a :: as, h, 0, 0, _, _, _ => rfl
  | a :: as, h, 0, j + 1, _, hj, e => absurd (by
      have e2 : a = as[j]'(by simpa using hj) := e
      rw [e2]
      exact List.getElem_mem _ : a ∈ as) (List.nodup_cons.mp h).1
  | a :: as, h, i + 1, 0, hi, _, e => absurd (by
      have e2 : as[i]'(by simpa using hi) = a := e
      rw [← e2]
      exact List.getElem_mem _ : a ∈ as) (List.nodup_cons.mp h).1
  | a :: as, h, i + 1, j + 1, hi, hj, e => congrArg (· + 1) (nodup_inj (List.nodup_cons.mp h).2 (by simpa using hi) (by simpa using hj) e)
/-- the list at l, new, holds the new lists at as -/
structure Own2 (G0 H0 HF : Hp) (l : Addr) (as : List Addr) (rows : List (List Int)) : Prop where
  hl : HF l = some (.lst (as.map V.ref))
  ha : as.length = rows.length
  hr : ∀ (i : Nat) (a : Addr) (r : List Int), as[i]? = some a → rows[i]? = some r → HF a = some (.lst (r.map V.int))
  hs : Same H0 HF
  gl : G0 l = none
  ga : ∀ a ∈ as, G0 a = none
  nl : H0 l = none
  na : ∀ a ∈ as, H0 a = none
  nd : (l :: as).Nodup
theorem Own2.mem (O : Own2 G0 H0 HF l as rows) {a : Addr} (h : a ∈ as) : ∃ r, r ∈ rows ∧ HF a = some (.lst (r.map V.int)) := by
  obtain ⟨i, hi, e⟩ := List.getElem_of_mem h
  have hi2 : i < rows.length := by rw [← O.ha]; exact hi
  exact ⟨rows[i], List.getElem_mem hi2, O.hr i a rows[i] (by rw [← e]; exact List.getElem?_eq_getElem hi) (List.getElem?_eq_getElem hi2)⟩
theorem Own2.ne (O : Own2 G0 H0 HF l as rows) {a : Addr} (h : a ∈ as) : a ≠ l := fun z => (List.nodup_cons.mp O.nd).1 (z ▸ h)
theorem rps_refs {G : Hp} : ∀ (as : List Addr) (rows : List (List Int)), as.length = rows.length → (∀ (i : Nat) (a : Addr) (r : List Int), as[i]? = some a → rows[i]? = some r → G a = some (.lst (r.map V.int))) → Rps K G (as.map V.ref) (rows.map dI)
  | [], [], _, _ => .nil
  | a :: as, r :: rows, h, hr => .cons (.lst (hr 0 a r rfl rfl) (rps_ints r)) (rps_refs as rows (by simpa using h) fun i b s e1 e2 => hr (i + 1) b s e1 e2)
  | [], _ :: _, h, _ => by cases h
  | _ :: _, [], h, _ => by cases h
where rps_ints : ∀ r : List Int, Rps K G (r.map V.int) (r.map D.int)
  | [] => .nil
  | x :: xs => .cons (.int x) (rps_ints xs)
/-- the new list as a slot's own list, its lists shared -/
theorem Own2.give (O : Own2 G0 H0 HF l as rows) (R : RepS K G0 HF G H σ env) (hn : ∀ (j : Nat) (es : List D), env[j]? ≠ some (.ow es)) {i : Nat} (hi : σ[i]? = some (some (.ref l))) :
    ∃ G', Same G G' ∧ RepS K G0 H0 G' H σ (env.set i (.ow (rows.map dI))) ∧ H l = some (.lst (as.map V.ref)) ∧ G' l = none ∧ Rps K G' (as.map V.ref) (rows.map dI) := by
  classical
  let G' : Hp := fun a => if a ∈ as then H a else G a
  have hin : ∀ a, a ∈ as → G' a = H a := fun a h => if_pos h
  have hout : ∀ a, a ∉ as → G' a = G a := fun a h => if_neg h
  have Ga : ∀ a ∈ as, G a = none := fun a h => by
    obtain ⟨r, _, e⟩ := O.mem h
    exact own_free R e (O.ga a h)
  have sg : Same G G' := fun a u q => by
    have : a ∉ as := fun h => by
      rw [Ga a h] at q
      cases q
    rw [hout a this]
    exact q
  have gh : Same G' H := fun a u q => by
    by_cases h : a ∈ as
    · rw [hin a h] at q
      exact q
    · rw [hout a h] at q
      exact R.gh a u q
  have R1 := unframes R O.hs
  have R2 : RepS K G0 H0 G' H σ env := by
    refine ⟨⟨R1.gr.gg.trans sg, R1.gr.hh, gh, fun a u q => ?_⟩, R1.len, fun j c e1 => ?_, R1.dis⟩
    · by_cases h : a ∈ as
      · exact .inr (O.na a h)
      · rw [hout a h] at q
        exact R1.gr.nw a u q
    · obtain ⟨w, h1, h2⟩ := R1.rep j c e1
      refine ⟨w, h1, ?_⟩
      cases c with
      | no => trivial
      | sh d =>
        obtain ⟨v, ev, rv⟩ := h2
        exact ⟨v, ev, rv.mono sg⟩
      | ow fs => exact absurd e1 (hn j fs)
  have hl : H l = some (.lst (as.map V.ref)) := R.gr.hh _ _ O.hl
  have lno : l ∉ as := (List.nodup_cons.mp O.nd).1
  have gl : G' l = none := by
    rw [hout l lno]
    exact own_free R O.hl O.gl
  have rp : Rps K G' (as.map V.ref) (rows.map dI) := rps_refs as rows O.ha fun j a r e1 e2 => by
    rw [hin a (List.mem_of_getElem? e1)]
    exact R.gr.hh _ _ (O.hr j a r e1 e2)
  refine ⟨G', sg, ?_, hl, gl, rp⟩
  have R3 := R2.setOw (i := i) hl gl O.nl rp fun j es _ e1 => absurd e1 (hn j es)
  have : σ.set i (some (.ref l)) = σ := by
    refine List.ext_getElem? fun j => ?_
    rw [List.getElem?_set]
    split
    · rename_i h
      subst h
      split
      · exact hi.symm
      · rename_i h2
        rw [List.getElem?_eq_none (by omega)] at hi
        cases hi
    · rfl
  rw [this] at R3
  exact R3
theorem own2_start (R : RepS K G0 H0 G H σ env) {i : Nat} (e : env[i]? = some (.ow [])) (hn : ∀ (j : Nat) (es : List D), (env.set i .no)[j]? ≠ some (.ow es)) : ∃ l HF, σ[i]? = some (some (.ref l)) ∧ RepS K G0 HF G H σ (env.set i .no) ∧ Own2 G0 H0 HF l [] [] := by
  obtain ⟨l, xs, el, hl, gl, h0, r⟩ := R.ow e
  cases r
  have hi : i < σ.length := by
    rw [← R.len]
    exact (List.getElem?_eq_some_iff.mp e).1
  have R1 : RepS K G0 H0 G H (σ.set i (some (.ref l))) (env.set i .no) := R.setNo
  have : σ.set i (some (.ref l)) = σ := by
    refine List.ext_getElem? fun j => ?_
    rw [List.getElem?_set]
    split
    · rename_i h
      subst h
      exact el.symm
    · rfl
  rw [this] at R1
  refine ⟨l, _, el, absorb R1 hl gl h0 fun j es e1 => absurd e1 (hn j es), ⟨upd_same, rfl, fun i a r e1 => (by cases e1), same_upd h0, R.gr.gg.free gl, fun a h => (by cases h), h0, fun a h => (by cases h), by simp⟩⟩
theorem Own2.push (O : Own2 G0 H0 HF l as rows) {r : List Int} (fp : HF p = none) (g0 : G0 p = none) : Own2 G0 H0 (upd (upd HF p (.lst (r.map V.int))) l (.lst ((as ++ [p]).map V.ref))) l (as ++ [p]) (rows ++ [r]) := by
  have lp : l ≠ p := fun z => by
    rw [← z, O.hl] at fp
    cases fp
  have ap : ∀ a ∈ as, a ≠ p := fun a h z => by
    obtain ⟨r, _, e⟩ := O.mem h
    rw [z, fp] at e
    cases e
  have n0 : H0 p = none := O.hs.free fp
  refine ⟨upd_same, by simp [O.ha], fun i a s e1 e2 => ?_, fun a u q => ?_, O.gl, fun a h => ?_, O.nl, fun a h => ?_, ?_⟩
  · by_cases hi : i < as.length
    · rw [List.getElem?_append_left hi] at e1
      rw [List.getElem?_append_left (by rw [← O.ha]; exact hi)] at e2
      have hm := List.mem_of_getElem? e1
      rw [upd_ne (O.ne hm), upd_ne (ap a hm)]
      exact O.hr i a s e1 e2
    · have : i = as.length := by
        have := (List.getElem?_eq_some_iff.mp e1).1
        simp at this
        omega
      subst this
      rw [List.getElem?_concat_length] at e1
      rw [O.ha, List.getElem?_concat_length] at e2
      cases e1
      cases e2
      rw [upd_ne (fun z => lp z.symm), upd_same]
  · have h1 : a ≠ l := fun z => by
      rw [z, O.nl] at q
      cases q
    have h2 : a ≠ p := fun z => by
      rw [z, n0] at q
      cases q
    rw [upd_ne h1, upd_ne h2]
    exact O.hs a u q
  · rcases List.mem_append.mp h with h | h
    · exact O.ga a h
    · rw [List.mem_singleton.mp h]
      exact g0
  · rcases List.mem_append.mp h with h | h
    · exact O.na a h
    · rw [List.mem_singleton.mp h]
      exact n0
  · have hnd := List.nodup_cons.mp O.nd
    refine List.nodup_cons.mpr ⟨fun h => ?_, ?_⟩
    · rcases List.mem_append.mp h with h | h
      · exact hnd.1 h
      · exact lp (List.mem_singleton.mp h)
    · refine List.nodup_append.mpr ⟨hnd.2, by simp, fun a h b hb => ?_⟩
      rw [List.mem_singleton.mp hb]
      exact ap a h
theorem Own2.put (O : Own2 G0 H0 HF l as rows) {i : Nat} {r : List Int} (e : as[i]? = some p) : Own2 G0 H0 (upd HF p (.lst (r.map V.int))) l as (rows.set i r) := by
  have hm := List.mem_of_getElem? e
  refine ⟨by rw [upd_ne (O.ne hm).symm]; exact O.hl, by simp [O.ha], fun j a s e1 e2 => ?_, fun a u q => ?_, O.gl, O.ga, O.nl, O.na, O.nd⟩
  · by_cases hj : j = i
    · subst hj
      rw [e] at e1
      cases e1
      rw [List.getElem?_set_self (by rw [← O.ha]; exact (List.getElem?_eq_some_iff.mp e).1)] at e2
      cases e2
      rw [upd_same]
    · rw [List.getElem?_set_ne (fun z => hj z.symm)] at e2
      have ne : a ≠ p := fun z => by
        subst z
        obtain ⟨h1, e3⟩ := List.getElem?_eq_some_iff.mp e1
        obtain ⟨h2, e4⟩ := List.getElem?_eq_some_iff.mp e
        exact hj (nodup_inj (List.nodup_cons.mp O.nd).2 h1 h2 (e3.trans e4.symm))
      rw [upd_ne ne]
      exact O.hr j a s e1 e2
  · have : a ≠ p := fun z => by
      rw [z, O.na p hm] at q
      cases q
    rw [upd_ne this]
    exact O.hs a u q
end
end K80
end

section
set_option Elab.async false
set_option linter.all false
set_option maxRecDepth 100000
set_option maxHeartbeats 2000000
namespace K80
open PySem PySem.Spec PyProof.Rows L2 Nm

section
variable {X : Cx} {W : WX} {G0 H0 HF G H : Hp} {σ : L2.St} {l : Addr} {as : List Addr} {rows : List (List Int)}
/-- the state beside the table -/
def E1 (s a c h w m kc : Cell) : En := [s, a, c, h, w, m, .no, kc, .no, .no, .no]
def E2 (s a c h w m k jc : Cell) : En := [s, a, c, h, w, m, .no, k, .no, jc, .no]
theorem E1_no {s a c h w m kc : Cell} (hs : ∀ x ∈ [s, a, c, h, w, m, kc], ∀ es, x ≠ .ow es) (j : Nat) (es : List D) : (E1 s a c h w m kc)[j]? ≠ some (.ow es) := fun e => by
  have hm := List.mem_of_getElem? e
  simp only [E1, List.mem_cons, List.not_mem_nil, or_false] at hm
  rcases hm with h | h | h | h | h | h | h | h | h | h | h
  · exact hs _ (by simp) es h.symm
  · exact hs _ (by simp) es h.symm
  · exact hs _ (by simp) es h.symm
  · exact hs _ (by simp) es h.symm
  · exact hs _ (by simp) es h.symm
  · exact hs _ (by simp) es h.symm
  · cases h
  · exact hs _ (by simp) es h.symm
  · cases h
  · cases h
  · cases h
theorem E2_no {s a c h w m k jc : Cell} (hs : ∀ x ∈ [s, a, c, h, w, m, k, jc], ∀ es, x ≠ .ow es) (j : Nat) (es : List D) : (E2 s a c h w m k jc)[j]? ≠ some (.ow es) := fun e => by
  have hm := List.mem_of_getElem? e
  simp only [E2, List.mem_cons, List.not_mem_nil, or_false] at hm
  rcases hm with h | h | h | h | h | h | h | h | h | h | h
  · exact hs _ (by simp) es h.symm
  · exact hs _ (by simp) es h.symm
  · exact hs _ (by simp) es h.symm
  · exact hs _ (by simp) es h.symm
  · exact hs _ (by simp) es h.symm
  · exact hs _ (by simp) es h.symm
  · cases h
  · exact hs _ (by simp) es h.symm
  · cases h
  · exact hs _ (by simp) es h.symm
  · cases h
theorem itd_step {J : It} {n i : Nat} {G1 H1 : Hp} (hJ : ItD X.K G J ((List.range n).map fun i : Nat => D.int (i : Nat))) (s1 : Same G G1) (s2 : Same G1 H1) :
    (i < n → J.go i H1 ∧ ∀ x H2, J.yld i H1 x H2 → ∃ G2, Gr G1 H1 G2 H2 ∧ Rp X.K G2 x (.int (i : Nat))) ∧ (n ≤ i → J.stop i H1) := by
  have it := hJ G1 H1 s1 s2 i
  refine ⟨fun hi => it.1 _ ?_, fun hi => it.2 (by simp; exact hi)⟩
  rw [List.getElem?_map, List.getElem?_range hi]
  rfl
/-- for k in range(h): table.append([..]) -/
theorem loop1 {wi : TI} {t : TE} {mi mA : MA} {s a c h w m : Cell} {n : Nat} (hs : ∀ x ∈ [s, a, c, h, w, m], ∀ es, x ≠ .ow es)
    (kI : ∀ (G0 H0 G H : Hp) (σ : L2.St) (env : En) (Rw : It → Hp → Prop), RepS X.K G0 H0 G H σ env → PostE X W G0 H0 σ G (mi env) (fun ds _ G2 H2 => ∀ J, ItD X.K G2 J ds → Rw J H2) → wi σ H Rw)
    (kA : ∀ (G0 H0 G H : Hp) (σ : L2.St) (env : En) (Q : VK), RepS X.K G0 H0 G H σ env → PostE X W G0 H0 σ G (mA env) (fun ds env2 G2 H2 => ∀ l xs, Own X.K H0 G2 H2 σ env2 l xs ds → Q (.ref l) H2) → t σ H Q)
    (hz : n < sizeLine) (hrn : rows.length = n)
    (hmi : mi (E1 s a c h w m .no) = .ok ((List.range n).map fun i : Nat => D.int (i : Nat)) (E1 s a c h w m .no))
    (hA : ∀ (i : Nat) (hi : i < rows.length), mA (E1 s a c h w m (.sh (.int (i : Nat)))) = .ok (rows[i].map D.int) (E1 s a c h w m (.sh (.int (i : Nat)))))
    (R : RepS X.K G0 HF G H σ (E1 s a c h w m .no)) (O : Own2 G0 H0 HF l [] []) (hl : σ[6]? = some (some (.ref l))) {Dn : Ends}
    (hD : ∀ σ2 G2 H2 HF2 l2 as2 kc, (∀ es, kc ≠ .ow es) → RepS X.K G0 HF2 G2 H2 σ2 (E1 s a c h w m kc) → Own2 G0 H0 HF2 l2 as2 rows → σ2[6]? = some (some (.ref l2)) → Dn.nx σ2 H2) :
    tFor wi (gName 7) (tDrop (tBM X.K "list" rAppend (tVar 6) (tCons t tNil))) Dn σ H := by
  refine kI G0 HF G H σ _ _ R ?_
  rw [hmi]
  intro G1 H1 R1 s1 J hJ
  refine ⟨fun i k σ' H' => ∃ G' HF' l' as' kc, (∀ es, kc ≠ .ow es) ∧ Same G1 G' ∧ RepS X.K G0 HF' G' H' σ' (E1 s a c h w m kc) ∧ Own2 G0 H0 HF' l' as' (rows.take i) ∧ σ'[6]? = some (some (.ref l')) ∧ i + k = n,
    ⟨n, G1, HF, l, [], .no, (fun es z => by cases z), Same.refl _, R1, by simpa using O, hl, by omega⟩, ?_⟩
  rintro i k σ' H' ⟨G', HF', l', as', kc, hkc, sG, R', O', el, hn⟩
  have it := itd_step (i := i) hJ sG R'.gh
  by_cases hlt : i < n
  · obtain ⟨go, yl⟩ := it.1 hlt
    refine .inr ⟨go, fun σ2 H2 => ∃ G' HF' l' as' kc, (∀ es, kc ≠ .ow es) ∧ Same G1 G' ∧ RepS X.K G0 HF' G' H2 σ2 (E1 s a c h w m kc) ∧ Own2 G0 H0 HF' l' as' (rows.take (i + 1)) ∧ σ2[6]? = some (some (.ref l')), fun σ2 H2 ⟨G2, HF2, l2, as2, kc2, h0, h1, h2, h3, h4⟩ => ⟨k - 1, by omega, G2, HF2, l2, as2, kc2, h0, h1, h2, h3, h4, by omega⟩, fun x H2 y => ?_⟩
    obtain ⟨G2, gr, rx⟩ := yl x H2 y
    have hlt2 : i < rows.length := by omega
    have R3 : RepS X.K G0 HF' G2 H2 (σ'.set 7 (some x)) (E1 s a c h w m (.sh (.int (i : Nat)))) := (R'.grow gr).setSh (i := 7) rx
    have el3 : (σ'.set 7 (some x))[6]? = some (some (.ref l')) := by
      rw [List.getElem?_set_ne (by omega)]
      exact el
    show tDrop _ _ (σ'.set 7 (some x)) H2
    have hl3 : H2 l' = some (.lst (as'.map V.ref)) := R3.gr.hh _ _ O'.hl
    refine ⟨.ref l', el3, .inl ⟨rfl, _, .inl (.inl hl3)⟩, ?_⟩
    refine kA G0 HF' G2 H2 _ _ _ R3 ?_
    rw [hA i hlt2]
    intro G4 H4 R4 s4 p xs Op
    have exs := Op.rps.ints
    subst exs
    have hl4 : H4 l' = some (.lst (as'.map V.ref)) := R4.gr.hh _ _ O'.hl
    have hal : as'.length = i := by
      rw [O'.ha, List.length_take]
      omega
    refine ⟨l', _, .ref p, rfl, rfl, hl4, by rw [List.length_map]; omega, ?_⟩
    have g0p : G0 p = none := R4.gr.gg.free Op.gl
    have hno := E1_no (s := s) (a := a) (c := c) (h := h) (w := w) (m := m) (kc := .sh (.int (i : Nat))) fun x hx es => by
      simp only [List.mem_cons, List.not_mem_nil, or_false] at hx
      rcases hx with z | z | z | z | z | z | z
      · exact hs x (by simp [z]) es
      · exact hs x (by simp [z]) es
      · exact hs x (by simp [z]) es
      · exact hs x (by simp [z]) es
      · exact hs x (by simp [z]) es
      · exact hs x (by simp [z]) es
      · subst z
        intro q
        cases q
    have R5 := absorb R4 Op.at_ Op.gl Op.h0 fun j es e1 => absurd e1 (hno j es)
    have lp : l' ≠ p := fun z => by
      have := Op.h0
      rw [← z, O'.hl] at this
      cases this
    have R6 := modify (p := l') (o := .lst (as'.map V.ref)) (o' := .lst ((as' ++ [p]).map V.ref)) R5 (by rw [upd_ne lp]; exact O'.hl) O'.gl
    have O6 := O'.push (r := rows[i]) Op.h0 g0p
    have etk : rows.take (i + 1) = rows.take i ++ [rows[i]] := by
      rw [List.take_succ, List.getElem?_eq_getElem hlt2]
      rfl
    rw [← etk] at O6
    refine ⟨G4, _, l', as' ++ [p], .sh (.int (i : Nat)), (fun es z => by cases z), sG.trans (gr.gg.trans s4), ?_, O6, el3⟩
    have em : (as' ++ [p]).map V.ref = as'.map V.ref ++ [V.ref p] := by simp
    rw [em] at R6 ⊢
    exact R6
  · refine .inl ⟨it.2 (by omega), hD σ' G' H' HF' l' as' kc hkc R' ?_ el⟩
    rw [List.take_of_length_le (by omega)] at O'
    exact O'
end
end K80
end

section
set_option Elab.async false
set_option linter.all false
set_option maxRecDepth 100000
set_option maxHeartbeats 2000000
namespace K80
open PySem PySem.Spec PyProof.Rows L2 Nm

section
variable {X : Cx} {W : WX} {G0 H0 HF G H : Hp} {σ : L2.St} {l : Addr} {as : List Addr} {rows : List (List Int)}
/-- one column of the table is looked after -/
def stp (b : List (List Int) → Nat → Bool) (ri : Nat → Nat) (v : Nat → Int) (rows : List (List Int)) (j : Nat) : List (List Int) :=
  if b rows j = true then rows.set (ri j) ((rows.getD (ri j) []).set j (v j)) else rows
theorem stp_len {b : List (List Int) → Nat → Bool} {ri : Nat → Nat} {v : Nat → Int} {rows : List (List Int)} {j : Nat} : (stp b ri v rows j).length = rows.length := by
  unfold stp
  split <;> simp
theorem stp_row {b : List (List Int) → Nat → Bool} {ri : Nat → Nat} {v : Nat → Int} {rows : List (List Int)} {j wd : Nat} (hr : ri j < rows.length) (h : ∀ r ∈ rows, r.length = wd) : ∀ r ∈ stp b ri v rows j, r.length = wd := by
  unfold stp
  split
  · intro r hm
    rcases List.mem_or_eq_of_mem_set hm with hm | rfl
    · exact h r hm
    · rw [List.length_set, List.getD_eq_getElem?_getD, List.getElem?_eq_getElem hr]
      exact h _ (List.getElem_mem hr)
  · exact h
def fin2 (b : List (List Int) → Nat → Bool) (ri : Nat → Nat) (v : Nat → Int) (rows : List (List Int)) (n : Nat) : List (List Int) := (List.range n).foldl (stp b ri v) rows
theorem fin2_succ (b : List (List Int) → Nat → Bool) (ri : Nat → Nat) (v : Nat → Int) (rows : List (List Int)) (n : Nat) : fin2 b ri v rows (n + 1) = stp b ri v (fin2 b ri v rows n) n := by
  unfold fin2
  rw [List.range_succ, List.foldl_append]
  rfl
/-- for j in range(w): if ..: table[..][j] = .. -/
theorem loop2 {wi : TI} {tc : TT} {tv ti : TE} {mi : MA} {mT : MT} {mV mI : ME} {s a c h w m : D} {k : Cell} {n hg : Nat} (hk : ∀ es, k ≠ .ow es) {b : List (List Int) → Nat → Bool} {ri : Nat → Nat} {v : Nat → Int}
    (kI : ∀ (G0 H0 G H : Hp) (σ : L2.St) (env : En) (Rw : It → Hp → Prop), RepS X.K G0 H0 G H σ env → PostE X W G0 H0 σ G (mi env) (fun ds _ G2 H2 => ∀ J, ItD X.K G2 J ds → Rw J H2) → wi σ H Rw)
    (kT : ∀ (G0 H0 G H : Hp) (σ : L2.St) (env : En) (Q : Bool → Hp → Prop), RepS X.K G0 H0 G H σ env → PostE X W G0 H0 σ G (mT env) (fun b _ _ H2 => Q b H2) → tc σ H Q)
    (kV : ∀ (G0 H0 G H : Hp) (σ : L2.St) (env : En) (Q : VK), RepS X.K G0 H0 G H σ env → PostE X W G0 H0 σ G (mV env) (fun d _ G2 H2 => ∀ v, Rp X.K G2 v d → Q v H2) → tv σ H Q)
    (kX : ∀ (G0 H0 G H : Hp) (σ : L2.St) (env : En) (Q : VK), RepS X.K G0 H0 G H σ env → PostE X W G0 H0 σ G (mI env) (fun d _ G2 H2 => ∀ v, Rp X.K G2 v d → Q v H2) → ti σ H Q)
    (hmi : mi (E2 (.sh s) (.sh a) (.sh c) (.sh h) (.sh w) (.sh m) k .no) = .ok ((List.range n).map fun i : Nat => D.int (i : Nat)) (E2 (.sh s) (.sh a) (.sh c) (.sh h) (.sh w) (.sh m) k .no))
    (hT : ∀ rows : List (List Int), rows.length = hg → (∀ r ∈ rows, r.length = n) → ∀ j < n, ∃ e, mT (((E2 (.sh s) (.sh a) (.sh c) (.sh h) (.sh w) (.sh m) k (.sh (.int (j : Nat)))).set 6 (.ow (rows.map dI))).map frzC) = .ok (b rows j) e)
    (hV : ∀ j < n, mV (E2 (.sh s) (.sh a) (.sh c) (.sh h) (.sh w) (.sh m) k (.sh (.int (j : Nat)))) = .ok (.int (v j)) (E2 (.sh s) (.sh a) (.sh c) (.sh h) (.sh w) (.sh m) k (.sh (.int (j : Nat)))))
    (hI : ∀ j < n, ri j < hg ∧ mI (E2 (.sh s) (.sh a) (.sh c) (.sh h) (.sh w) (.sh m) k (.sh (.int (j : Nat)))) = .ok (.int (ri j : Nat)) (E2 (.sh s) (.sh a) (.sh c) (.sh h) (.sh w) (.sh m) k (.sh (.int (j : Nat)))))
    (hrl : rows.length = hg) (hrw : ∀ r ∈ rows, r.length = n)
    (R : RepS X.K G0 HF G H σ (E2 (.sh s) (.sh a) (.sh c) (.sh h) (.sh w) (.sh m) k .no)) (O : Own2 G0 H0 HF l as rows) (hl : σ[6]? = some (some (.ref l))) {Dn : Ends}
    (hD : ∀ σ2 G2 H2 HF2 l2 as2 jc, (∀ es, jc ≠ .ow es) → RepS X.K G0 HF2 G2 H2 σ2 (E2 (.sh s) (.sh a) (.sh c) (.sh h) (.sh w) (.sh m) k jc) → Own2 G0 H0 HF2 l2 as2 (fin2 b ri v rows n) → σ2[6]? = some (some (.ref l2)) → Dn.nx σ2 H2) :
    tFor wi (gName 9) (tIfS tc (tAsg tv (gSub (tOp (rIx X.K) (tVar 6) ti) (tVar 9) rSetL)) tNext) Dn σ H := by
  have ri_lt : ∀ j < n, ri j < hg := fun j hj => (hI j hj).1
  have hfin : ∀ j ≤ n, (fin2 b ri v rows j).length = hg ∧ ∀ r ∈ fin2 b ri v rows j, r.length = n := by
    intro j
    induction j with
    | zero => exact fun _ => ⟨hrl, hrw⟩
    | succ j ih =>
      intro hj
      obtain ⟨h1, h2⟩ := ih (by omega)
      rw [fin2_succ]
      exact ⟨by rw [stp_len, h1], stp_row (by rw [h1]; exact ri_lt j (by omega)) h2⟩
  refine kI G0 HF G H σ _ _ R ?_
  rw [hmi]
  intro G1 H1 R1 s1 J hJ
  refine ⟨fun i q σ' H' => ∃ G' HF' l' as' jc, (∀ es, jc ≠ .ow es) ∧ Same G1 G' ∧ RepS X.K G0 HF' G' H' σ' (E2 (.sh s) (.sh a) (.sh c) (.sh h) (.sh w) (.sh m) k jc) ∧ Own2 G0 H0 HF' l' as' (fin2 b ri v rows i) ∧ σ'[6]? = some (some (.ref l')) ∧ i + q = n,
    ⟨n, G1, HF, l, as, .no, (fun es z => by cases z), Same.refl _, R1, O, hl, by omega⟩, ?_⟩
  rintro i q σ' H' ⟨G', HF', l', as', jc, hjc, sG, R', O', el, hn⟩
  have it := itd_step (i := i) hJ sG R'.gh
  by_cases hlt : i < n
  · obtain ⟨go, yl⟩ := it.1 hlt
    refine .inr ⟨go, fun σ2 H2 => ∃ G' HF' l' as' jc, (∀ es, jc ≠ .ow es) ∧ Same G1 G' ∧ RepS X.K G0 HF' G' H2 σ2 (E2 (.sh s) (.sh a) (.sh c) (.sh h) (.sh w) (.sh m) k jc) ∧ Own2 G0 H0 HF' l' as' (fin2 b ri v rows (i + 1)) ∧ σ2[6]? = some (some (.ref l')), fun σ2 H2 ⟨G2, HF2, l2, as2, kc2, h0, h1, h2, h3, h4⟩ => ⟨q - 1, by omega, G2, HF2, l2, as2, kc2, h0, h1, h2, h3, h4, by omega⟩, fun x H2 y => ?_⟩
    obtain ⟨G2, gr, rx⟩ := yl x H2 y
    cases rx
    have R3 : RepS X.K G0 HF' G2 H2 (σ'.set 9 (some (.int (i : Nat)))) (E2 (.sh s) (.sh a) (.sh c) (.sh h) (.sh w) (.sh m) k (.sh (.int (i : Nat)))) := (R'.grow gr).setSh (i := 9) (.int _)
    have el3 : (σ'.set 9 (some (V.int (i : Nat))))[6]? = some (some (.ref l')) := by
      rw [List.getElem?_set_ne (by omega)]
      exact el
    have hno := E2_no (s := .sh s) (a := .sh a) (c := .sh c) (h := .sh h) (w := .sh w) (m := .sh m) (k := k) (jc := .sh (.int (i : Nat))) fun x hx es => by
      simp only [List.mem_cons, List.not_mem_nil, or_false] at hx
      rcases hx with z | z | z | z | z | z | z | z
      · subst z; intro q; cases q
      · subst z; intro q; cases q
      · subst z; intro q; cases q
      · subst z; intro q; cases q
      · subst z; intro q; cases q
      · subst z; intro q; cases q
      · subst z; exact hk es
      · subst z; intro q; cases q
    obtain ⟨f1, f2⟩ := hfin i (by omega)
    show tIfS _ _ _ _ (σ'.set 9 (some (V.int (i : Nat)))) H2
    obtain ⟨Gw, sw, Rw, _⟩ := O'.give R3 hno el3
    obtain ⟨Ga, sa, Ra⟩ := Rw.all
    obtain ⟨e', hT'⟩ := hT _ f1 f2 i hlt
    refine kT Ga H2 Ga H2 _ _ _ Ra ?_
    rw [hT']
    intro G5 H5 R5 s5
    have R6 : RepS X.K G0 HF' G2 H5 (σ'.set 9 (some (.int (i : Nat)))) (E2 (.sh s) (.sh a) (.sh c) (.sh h) (.sh w) (.sh m) k (.sh (.int (i : Nat)))) :=
      R3.grow ⟨Same.refl G2, R5.gr.hh, fun a u z => R5.gr.hh a u (R3.gh a u z), fun _ _ z => .inl z⟩
    rw [fin2_succ]
    generalize hrr : fin2 b ri v rows i = rr at *
    by_cases hb : b rr i = true
    · rw [if_pos hb]
      refine kV G0 HF' G2 H5 _ _ _ R6 ?_
      rw [hV i hlt]
      intro G6 H6 R7 s6 vv rv
      cases rv
      show tOp (rIx X.K) (tVar 6) ti _ H6 _
      refine ⟨.ref l', el3, ?_⟩
      refine kX G0 HF' G6 H6 _ _ _ R7 ?_
      rw [(hI i hlt).2]
      intro G7 H7 R8 s7 vi rvi
      cases rvi
      have hl7 : H7 l' = some (.lst (as'.map V.ref)) := R8.gr.hh _ _ O'.hl
      have hri : ri i < as'.length := by
        rw [O'.ha, f1]
        exact ri_lt i hlt
      have hri2 : ri i < rr.length := by
        rw [f1]
        exact ri_lt i hlt
      have hap : as'[ri i]? = some as'[ri i] := List.getElem?_eq_getElem hri
      refine .inl ⟨l', _, _, .ref as'[ri i], rfl, rfl, .inl (.inl hl7), atI_nat (by rw [List.getElem?_map, hap]; rfl), ?_⟩
      refine ⟨.int (i : Nat), ?_, ?_⟩
      · rw [List.getElem?_set_self (by
          have := R8.len
          rw [List.length_set] at this
          rw [← this]
          show 9 < 11
          omega)]
      have hp6 : HF' as'[ri i] = some (.lst (rr[ri i].map V.int)) := O'.hr _ _ _ hap (List.getElem?_eq_getElem hri2)
      have hp7 := R8.gr.hh _ _ hp6
      have hlen : rr[ri i].length = n := f2 _ (List.getElem_mem hri2)
      refine ⟨_, _, _, i, rfl, rfl, hp7, ?_, ?_⟩
      · rw [List.length_map, hlen]
        simp [L2.ixN, hlt]
      · have R9 := modify (o' := .lst ((rr[ri i].set i (v i)).map V.int)) R8 hp6 (O'.ga _ (List.getElem_mem hri))
        have O9 := O'.put (r := rr[ri i].set i (v i)) hap
        have em : (rr[ri i].map V.int).set i (.int (v i)) = (rr[ri i].set i (v i)).map V.int := by rw [List.map_set]
        have es : stp b ri v rr i = rr.set (ri i) (rr[ri i].set i (v i)) := by
          unfold stp
          rw [if_pos hb, List.getD_eq_getElem?_getD, List.getElem?_eq_getElem hri2]
          rfl
        rw [em, es]
        exact ⟨G7, _, l', as', _, (fun es z => by cases z), sG.trans (gr.gg.trans (s6.trans s7)), R9, O9, el3⟩
    · rw [if_neg hb]
      have es : stp b ri v rr i = rr := if_neg hb
      rw [es]
      exact ⟨G2, HF', l', as', _, (fun es z => by cases z), sG.trans gr.gg, R6, O', el3⟩
  · have : i = n := by omega
    subst this
    exact .inl ⟨it.2 (by omega), hD σ' G' H' HF' l' as' jc hjc R' O' el⟩
end
end K80
end

section
set_option Elab.async false
set_option linter.all false
set_option maxRecDepth 100000
set_option maxHeartbeats 2000000
namespace K80
open PySem PySem.Spec PyProof.Rows L2 Nm

/-! ### the drawn table -/
def kinds : List (Int × Int × Int) := [(1, 3, 6), (1, 2, 9), (2, 3, 3), (1, 4, 4), (2, 4, 2), (1, 3, 9), (1, 1, 9), (2, 2, 5), (3, 3, 2), (2, 3, 2)]
def dgN (ns : List Int) (k : Nat) (w m : Int) : List Int := match fDg [dF ns, .int (0 + 1 + (k : Int)), .int w, .int (m + 1)] with
  | .ow es => (toIs es).getD []
  | _ => []
def bT (rows : List (List Int)) (j : Nat) : Bool := (rows.filter fun r => decide (0 < r.getD j 0)).isEmpty
def riF (c h : Int) (j : Nat) : Nat := ((c / 10 + (j : Int)) % h).toNat
def vF (c m : Int) (j : Nat) : Int := 1 + c / (30 + (j : Int)) % m
def rows0 (ns : List Int) (h w m : Int) : List (List Int) := (List.range h.toNat).map fun k => dgN ns k w m
def rowsOf (ns : List Int) (c h w m : Int) : List (List Int) := fin2 bT (riF c h) (vF c m) (rows0 ns h w m) w.toNat
def tailOf : En → Option (List (List Int))
  | [.sh (.fz l), .sh (.int a), .sh (.int c), .sh (.int h), .sh (.int w), .sh (.int m), .no, .no, .no, .no, .no] => if a = 0 ∧ (h, w, m) ∈ kinds then (toIs l).map fun ns => rowsOf ns c h w m else none
  | _ => none
def mTail : MS := fun env => match tailOf env with
  | some rows => .rt (.ow (rows.map dI)) (List.replicate 11 .no)
  | none => .bad
theorem kinds_is {h w m : Int} (hk : (h, w, m) ∈ kinds) : 1 ≤ h ∧ h ≤ 3 ∧ 1 ≤ w ∧ w ≤ 4 ∧ 2 ≤ m ∧ m ≤ 9 := by
  simp only [kinds, List.mem_cons, List.not_mem_nil, or_false, Prod.mk.injEq] at hk
  omega
theorem dgN_is (ns : List Int) (k : Nat) {h w m : Int} (hk : (h, w, m) ∈ kinds) (hk2 : k ≤ 50) : fDg [dF ns, .int (0 + 1 + (k : Int)), .int w, .int (m + 1)] = .ow ((dgN ns k w m).map D.int) ∧ (dgN ns k w m).length = w.toNat ∧ ∀ d ∈ dgN ns k w m, 0 ≤ d ∧ d ≤ m := by
  obtain ⟨h1, h2, w1, w2, m1, m2⟩ := kinds_is hk
  obtain ⟨ds, hd, hl, hb⟩ := digits_is ns (at_ := 1 + k) (count := w.toNat) (base := (m + 1).toNat) (by omega) (by omega) (by omega) (by omega)
  have e1 : ((1 + k : Nat) : Int) = 0 + 1 + (k : Int) := by omega
  have e2 : ((w.toNat : Nat) : Int) = w := by omega
  have e3 : (((m + 1).toNat : Nat) : Int) = m + 1 := by omega
  rw [e1, e2, e3] at hd
  have hd' : fDg [dF ns, .int (0 + 1 + (k : Int)), .int w, .int (m + 1)] = .ow (ds.map D.int) := hd
  have : dgN ns k w m = ds := by
    unfold dgN
    rw [hd']
    simp
  rw [this]
  exact ⟨hd', hl, fun d h => by have := hb d h; omega⟩
def mA1 : MA := mLc (gNm 8) (mItems (mCall 4 fDg (mCons (mVar 0) (mCons (mBin gAdd (mBin gAdd (mVar 1) (mC (.int 1))) (mVar 7)) (mCons (mVar 4) (mCons (mBin gAdd (mVar 5) (mC (.int 1))) mNil)))))) mYes (mVar 8) [8]
def mT2 : MT := mB (mBin gEq (mL (mLc (gNm 10) (mItems (mVar 6)) (mB (mBin gGt (mBin gIx (mVar 10) (mVar 9)) (mC (.int 0)))) (mVar 10) [10])) (mL (mCB gLst mNil)))
def mV2 : ME := mBin gAdd (mC (.int 1)) (mBin gMod (mCB gInt (mCons (mBin gDiv (mVar 2) (mBin gAdd (mC (.int 30)) (mVar 9))) mNil)) (mVar 5))
def mX2 : ME := mBin gMod (mCB gInt (mCons (mBin gAdd (mBin gDiv (mVar 2) (mC (.int 10))) (mVar 9)) mNil)) (mVar 3)
section
variable {ns : List Int} {c h w m : Int} {k0 : Cell}
theorem mA1_is (hk : (h, w, m) ∈ kinds) (k : Nat) (hk2 : k ≤ 50) : mA1 (E1 (.sh (dF ns)) (.sh (.int 0)) (.sh (.int c)) (.sh (.int h)) (.sh (.int w)) (.sh (.int m)) (.sh (.int (k : Nat)))) = .ok ((dgN ns k w m).map D.int) (E1 (.sh (dF ns)) (.sh (.int 0)) (.sh (.int c)) (.sh (.int h)) (.sh (.int w)) (.sh (.int m)) (.sh (.int (k : Nat)))) := by
  obtain ⟨h1, h2, h3⟩ := dgN_is ns k hk hk2
  have hw := (kinds_is hk).2.2.2.1
  have k2 := runLc_mapF (g := gNm 8) (t := mYes) (el := mVar 8) (vs := [8]) (e := E1 (.sh (dF ns)) (.sh (.int 0)) (.sh (.int c)) (.sh (.int h)) (.sh (.int w)) (.sh (.int m)) (.sh (.int (k : Nat)))) D.int D.int (dgN ns k w m) fun r _ => by simp [stepLc, E1]
  refine lc_at (e := E1 (.sh (dF ns)) (.sh (.int 0)) (.sh (.int c)) (.sh (.int h)) (.sh (.int w)) (.sh (.int m)) (.sh (.int (k : Nat)))) ?_ (by rw [List.length_map, h2, sizeLine_eq]; omega) rfl k2 rfl
  have e0 : (0 : Int) + 1 + (k : Int) = 0 + 1 + k := rfl
  simp only [mItems, mCall, mCons, mNil, mVar, mBin, mC, E1, List.getElem?_cons_zero, List.getElem?_cons_succ, Res.bind_ok, gAdd_i, ofO_some, List.length_cons, List.length_nil, h1]
  rfl
theorem mT2_is {rows : List (List Int)} {n : Nat} (hz : rows.length ≤ 1000) (hr : ∀ r ∈ rows, r.length = n) {j : Nat} (hj : j < n) : ∃ e, mT2 (((E2 (.sh (dF ns)) (.sh (.int 0)) (.sh (.int c)) (.sh (.int h)) (.sh (.int w)) (.sh (.int m)) k0 (.sh (.int (j : Nat)))).set 6 (.ow (rows.map dI))).map frzC) = .ok (bT rows j) e := by
  have k2 := runLc_fmF (g := gNm 10) (t := mB (mBin gGt (mBin gIx (mVar 10) (mVar 9)) (mC (.int 0)))) (el := mVar 10) (vs := [10]) (e := [.sh (dF ns), .sh (.int 0), .sh (.int c), .sh (.int h), .sh (.int w), .sh (.int m), .sh (dR rows), frzC k0, .no, .sh (.int (j : Nat)), .no])
    dI (fun r => if 0 < r.getD j 0 then some (dI r) else none) rows fun r hm => by
      have hj' : j < r.length := by rw [hr r hm]; exact hj
      by_cases hp : 0 < r[j] <;> simp [stepLc, L2.atI, ixN, hj', hp]
  have ef : (rows.filterMap fun r => if 0 < r.getD j 0 then some (dI r) else none) = (rows.filter fun r => decide (0 < r.getD j 0)).map dI := by
    rw [← List.filterMap_eq_map, List.filterMap_filter]
    refine congrArg (fun f => rows.filterMap f) (funext fun r => ?_)
    by_cases hp : 0 < r.getD j 0 <;> simp [hp]
  rw [ef] at k2
  have hl := lc_at (mi := mItems (mVar 6)) (env := [.sh (dF ns), .sh (.int 0), .sh (.int c), .sh (.int h), .sh (.int w), .sh (.int m), .sh (dR rows), frzC k0, .no, .sh (.int (j : Nat)), .no]) (e := [.sh (dF ns), .sh (.int 0), .sh (.int c), .sh (.int h), .sh (.int w), .sh (.int m), .sh (dR rows), frzC k0, .no, .sh (.int (j : Nat)), .no]) rfl (by rw [List.length_map, sizeLine_eq]; omega) rfl k2 rfl
  have he : gEq (dR (rows.filter fun r => decide (0 < r.getD j 0))) (.lst []) = some (.bl (bT rows j)) := by
    rw [gEq_nil (okN_rows _)]
    unfold bT
    cases rows.filter fun r => decide (0 < r.getD j 0) <;> rfl
  have hen : ((E2 (.sh (dF ns)) (.sh (.int 0)) (.sh (.int c)) (.sh (.int h)) (.sh (.int w)) (.sh (.int m)) k0 (.sh (.int (j : Nat)))).set 6 (.ow (rows.map dI))).map frzC = [.sh (dF ns), .sh (.int 0), .sh (.int c), .sh (.int h), .sh (.int w), .sh (.int m), .sh (dR rows), frzC k0, .no, .sh (.int (j : Nat)), .no] := rfl
  rw [hen]
  exact ⟨_, by
    unfold mT2
    simp only [mB, mBin, mL, hl, Res.bind_ok, mCB, mNil, Nm.gLst, List.length_nil, Nat.zero_le, if_true, ofO_some, he]
    rfl⟩
theorem mV2_is (hk : (h, w, m) ∈ kinds) {j : Nat} (hj : j < w.toNat) : mV2 (E2 (.sh (dF ns)) (.sh (.int 0)) (.sh (.int c)) (.sh (.int h)) (.sh (.int w)) (.sh (.int m)) k0 (.sh (.int (j : Nat)))) = .ok (.int (vF c m j)) (E2 (.sh (dF ns)) (.sh (.int 0)) (.sh (.int c)) (.sh (.int h)) (.sh (.int w)) (.sh (.int m)) k0 (.sh (.int (j : Nat)))) := by
  have := kinds_is hk
  have d1 : cDiv c (30 + (j : Int)) = true := div_of (by omega) (by omega)
  have d2 : ∀ x, cMod x m = true := fun x => mod_of (by omega)
  simp [mV2, E2, d1, d2, vF]
theorem mX2_is (hk : (h, w, m) ∈ kinds) {j : Nat} (hj : j < w.toNat) : riF c h j < h.toNat ∧ mX2 (E2 (.sh (dF ns)) (.sh (.int 0)) (.sh (.int c)) (.sh (.int h)) (.sh (.int w)) (.sh (.int m)) k0 (.sh (.int (j : Nat)))) = .ok (.int (riF c h j : Nat)) (E2 (.sh (dF ns)) (.sh (.int 0)) (.sh (.int c)) (.sh (.int h)) (.sh (.int w)) (.sh (.int m)) k0 (.sh (.int (j : Nat)))) := by
  have := kinds_is hk
  have d1 : cDiv c 10 = true := div_of (by decide) (by decide)
  have d2 : ∀ x, cMod x h = true := fun x => mod_of (by omega)
  have p1 := Int.emod_nonneg (c / 10 + (j : Int)) (show h ≠ 0 by omega)
  have p2 := Int.emod_lt_of_pos (c / 10 + (j : Int)) (show 0 < h by omega)
  have e : ((riF c h j : Nat) : Int) = (c / 10 + (j : Int)) % h := by unfold riF; omega
  refine ⟨by unfold riF; omega, ?_⟩
  rw [e]
  simp [mX2, E2, d1, d2]
end
end K80
end

section
set_option Elab.async false
set_option linter.all false
set_option maxRecDepth 100000
set_option maxHeartbeats 2000000
namespace K80
open PySem PySem.Spec PyProof.Rows L2 Nm

theorem reps_no {K : PySem.W.Frag} {G0 H0 G H : Hp} {σ : L2.St} {env : En} (R : RepS K G0 H0 G H σ env) (hn : env.length = 11) : RepS K G0 H0 G H σ (List.replicate 11 .no) := by
  refine ⟨R.gr, by rw [← R.len, hn]; rfl, fun i c e => ?_, fun a b ds es l e1 => ?_⟩
  · obtain ⟨h1, h2⟩ := List.getElem?_eq_some_iff.mp e
    rw [List.getElem_replicate] at h2
    subst h2
    have hl : i < σ.length := by rw [← R.len, hn]; simpa using h1
    exact ⟨_, List.getElem?_eq_getElem hl, trivial⟩
  · obtain ⟨h1, h2⟩ := List.getElem?_eq_some_iff.mp e1
    rw [List.getElem_replicate] at h2
    cases h2
theorem db_tail {X : Cx} {W : WX} {st3 st6 : Stmt} {tg1 it1 tg2 it2 eA eV eX c2 oo oa ej : Expr} {nm : Str} {o1 o2 o3 o4 o5 o6 o7 o8 o9 : Pos}
    (h3 : DS X W st3 (sSetO 6 (mCB Nm.gLst mNil)))
    (hI1 : DI X W tg1 it1 (mRng1 (mCons (mVar 3) mNil)))
    (hA : DO X W eA mA1)
    (p4 : ∀ wi t, PI X tg1 it1 wi → PE X eA t → PS X (.For tg1 it1 [.Expr (.Call (.Attribute oa nm o1) [eA] [] o2) o3] [] o4) (tFor wi (gName 7) (tDrop (tBM X.K "list" rAppend (tVar 6) (tCons t tNil)))))
    (hI2 : DI X W tg2 it2 (mRng1 (mCons (mVar 4) mNil)))
    (hT : DT X W c2 mT2) (hV : DE X W eV mV2) (hX : DE X W eX mX2)
    (p5 : ∀ wi tc tv ti, PI X tg2 it2 wi → PT X c2 tc → PE X eV tv → PE X eX ti → PS X (.For tg2 it2 [.If c2 [.Assign [.Subscript (.Subscript oo eX o5) ej o6] eV o7] [] o8] [] o9) (tFor wi (gName 9) (tIfS tc (tAsg tv (gSub (tOp (rIx X.K) (tVar 6) ti) (tVar 9) rSetL)) tNext)))
    (p6 : PS X st6 (tRet (tVar 6))) : DB X W [st3, .For tg1 it1 [.Expr (.Call (.Attribute oa nm o1) [eA] [] o2) o3] [] o4, .For tg2 it2 [.If c2 [.Assign [.Subscript (.Subscript oo eX o5) ej o6] eV o7] [] o8] [] o9, st6] mTail := by
  obtain ⟨t3, q3, k3⟩ := h3.run
  obtain ⟨wi1, q1, kI1⟩ := hI1.run
  obtain ⟨tA, qA, kA⟩ := hA.run
  obtain ⟨wi2, q2, kI2⟩ := hI2.run
  obtain ⟨tT, qT, kT⟩ := hT.run
  obtain ⟨tV, qV, kV⟩ := hV.run
  obtain ⟨tX, qX, kX⟩ := hX.run
  refine ⟨_, pss_cons q3 (pss_cons (p4 _ _ q1 qA) (pss_cons (p5 _ _ _ _ q2 qT qV qX) (pss_one p6))), fun G0 H0 G H σ env Dn R q => ?_⟩
  unfold mTail at q
  cases hto : tailOf env with
  | none =>
    rw [hto] at q
    exact q.elim
  | some rows =>
    rw [hto] at q
    have q : ∀ σ G H l xs, RepS X.K G0 H0 G H σ (List.replicate 11 .no) → H l = some (.lst xs) → G l = none → H0 l = none → Rps X.K G xs (rows.map dI) → Dn.rt (.ref l) H := q
    unfold tailOf at hto
    split at hto
    · rename_i l a c h w m
      split at hto
      · rename_i hcond
        obtain ⟨rfl, hk⟩ := hcond
        cases hns : toIs l with
        | none =>
          rw [hns] at hto
          cases hto
        | some ns =>
          rw [hns] at hto
          have hrows : rowsOf ns c h w m = rows := Option.some.inj hto
          have hl := toIs_ints hns
          subst hl
          have hkk := kinds_is hk
          refine k3 G0 H0 G H σ _ _ R ?_
          intro σ1 G1 H1 R1 s1
          obtain ⟨l1, HF1, el1, R2, O1⟩ := own2_start (i := 6) R1 rfl (E1_no (kc := .no) fun x hx es => by
            simp only [List.mem_cons, List.not_mem_nil, or_false] at hx
            rcases hx with z | z | z | z | z | z | z <;> (subst z; intro q; cases q))
          have R2' : RepS X.K G0 HF1 G1 H1 σ1 (E1 (.sh (dF ns)) (.sh (.int 0)) (.sh (.int c)) (.sh (.int h)) (.sh (.int w)) (.sh (.int m)) .no) := R2
          refine loop1 (X := X) (W := W) (rows := rows0 ns h w m) (n := h.toNat) (fun x hx es => by
            simp only [List.mem_cons, List.not_mem_nil, or_false] at hx
            rcases hx with z | z | z | z | z | z <;> (subst z; intro q; cases q)) kI1 kA (by rw [sizeLine_eq]; omega) (by simp [rows0]) ?_ (fun i hi => ?_) R2' O1 el1 ?_
          · refine rngN_at ?_ (by omega)
            have : ((h.toNat : Nat) : Int) = h := by omega
            rw [this]
            rfl
          · have hi' : i < h.toNat := by simpa [rows0] using hi
            have : (rows0 ns h w m)[i] = dgN ns i w m := by simp [rows0]
            rw [this]
            exact mA1_is hk i (by omega)
          · intro σ2 G2 H2 HF2 l2 as2 kc hkc R3 O2 el2
            have R3' : RepS X.K G0 HF2 G2 H2 (L2.wipe σ2 []) (E2 (.sh (dF ns)) (.sh (.int 0)) (.sh (.int c)) (.sh (.int h)) (.sh (.int w)) (.sh (.int m)) kc .no) := R3
            refine loop2 (X := X) (W := W) (rows := rows0 ns h w m) (n := w.toNat) (hg := h.toNat) (b := bT) (ri := riF c h) (v := vF c m) hkc kI2 kT kV kX ?_ (fun rs h1 h2 j hj => mT2_is (by omega) h2 hj) (fun j hj => mV2_is hk hj) (fun j hj => mX2_is hk hj) (by simp [rows0]) (fun r hr => ?_) R3' O2 el2 ?_
            · refine rngN_at ?_ (by omega)
              have : ((w.toNat : Nat) : Int) = w := by omega
              rw [this]
              rfl
            · obtain ⟨i, hi, rfl⟩ := List.mem_map.mp hr
              have := List.mem_range.mp hi
              exact (dgN_is ns i hk (by omega)).2.1
            · intro σ4 G4 H4 HF4 l4 as4 jc hjc R5 O4 el4
              obtain ⟨Gw, sw, Rw, hlw, glw, rpw⟩ := O4.give R5 (E2_no fun x hx es => by
                simp only [List.mem_cons, List.not_mem_nil, or_false] at hx
                rcases hx with z | z | z | z | z | z | z | z
                · subst z; intro q; cases q
                · subst z; intro q; cases q
                · subst z; intro q; cases q
                · subst z; intro q; cases q
                · subst z; intro q; cases q
                · subst z; intro q; cases q
                · subst z; exact hkc es
                · subst z; exact hjc es) el4
              refine ⟨.ref l4, el4, q σ4 Gw H4 l4 _ (reps_no Rw rfl) hlw glw O4.nl ?_⟩
              rw [← hrows]
              exact rpw
      · cases hto
    · cases hto
end K80
end

section
set_option Elab.async false
set_option linter.all false
set_option maxRecDepth 100000
set_option maxHeartbeats 4000000
namespace K80
open PySem PySem.Spec PyProof.Rows L2 Nm

abbrev s_law_table : Stmt := PySem.Challenge.pw_noughtmeet_k80_choices_of_tables.main.body.getD 16 (.Pass ⟨0, 0, 0, 0⟩)
def m_tcell : MS := sSet 2 (mCall 2 fC (mCons (mVar 0) (mCons (mVar 1) mNil)))
def m_tkind : MS := (sAsg (gTp 3 (Nm.gCons (gNm 3) (Nm.gCons (gNm 4) (Nm.gCons (gNm 5) gNil)))) (mBin gIx (mL (mCB Nm.gLst (mCons (mCB Nm.gTup (mCons (mC (.int 1)) (mCons (mC (.int 3)) (mCons (mC (.int 6)) mNil)))) (mCons (mCB Nm.gTup (mCons (mC (.int 1)) (mCons (mC (.int 2)) (mCons (mC (.int 9)) mNil)))) (mCons (mCB Nm.gTup (mCons (mC (.int 2)) (mCons (mC (.int 3)) (mCons (mC (.int 3)) mNil)))) (mCons (mCB Nm.gTup (mCons (mC (.int 1)) (mCons (mC (.int 4)) (mCons (mC (.int 4)) mNil)))) (mCons (mCB Nm.gTup (mCons (mC (.int 2)) (mCons (mC (.int 4)) (mCons (mC (.int 2)) mNil)))) (mCons (mCB Nm.gTup (mCons (mC (.int 1)) (mCons (mC (.int 3)) (mCons (mC (.int 9)) mNil)))) (mCons (mCB Nm.gTup (mCons (mC (.int 1)) (mCons (mC (.int 1)) (mCons (mC (.int 9)) mNil)))) (mCons (mCB Nm.gTup (mCons (mC (.int 2)) (mCons (mC (.int 2)) (mCons (mC (.int 5)) mNil)))) (mCons (mCB Nm.gTup (mCons (mC (.int 3)) (mCons (mC (.int 3)) (mCons (mC (.int 2)) mNil)))) (mCons (mCB Nm.gTup (mCons (mC (.int 2)) (mCons (mC (.int 3)) (mCons (mC (.int 2)) mNil)))) mNil)))))))))))) (mBin gMod (mCB gInt (mCons (mVar 2) mNil)) (mC (.int 10)))))
def m_law_table : MS := sSeq m_tcell (sSeq m_tkind mTail)
theorem sc_law_table : FnScope ["script", "at", "cell", "height", "width", "most", "table", "k", "x", "j", "row"] ["script", "at"] (defScope s_law_table) := ⟨rfl, rfl, rfl, by decide +kernel, rfl, by decide +kernel, by decide +kernel⟩
theorem ok_law_table {a : Ad} {P : Program} {w : World} {K : PySem.W.Frag} {mg : Str → Option Value} {base : Heap} (T : Tx a P w K mg base) (c_law_cell : CalN P w K mg base 1 "_law_cell" 2 fC) (c_law_digits : CalN P w K mg base 2 "_law_digits" 4 fDg) {f : Addr} {fd : FuncData} (F : Fun K "_law_table" "_law_table" s_law_table f fd) :
    FnOk P w K mg base (L2.CX P w) (8) f fd ["script", "at"] (spF K mg 2 (frun 11 m_law_table)) := by
  have nd := (sc_law_table).nd
  exact fn_ok (k := 7) F sc_law_table (fun cdv A outer s H E hr =>
    (db_cons (ds_set (i := 2) (de_cl c_law_cell hr (by decide) rfl (takes_of rfl rfl rfl rfl) (da_cons (de_var 0 (pv 0)) (da_cons (de_var 1 (pv 1)) da_nil))) (fun t ht => ps_set (i := 2) nd rfl (by first | exact Or.inl rfl | exact Or.inr rfl) ht))
    (db_cons (ds_asg (ix := [3, 4, 5]) (dg_tup (dgs_cons (dg_name (pg_name (i := 3) nd rfl (by first | exact Or.inl rfl | exact Or.inr rfl))) (dgs_cons (dg_name (pg_name (i := 4) nd rfl (by first | exact Or.inl rfl | exact Or.inr rfl))) (dgs_cons (dg_name (pg_name (i := 5) nd rfl (by first | exact Or.inl rfl | exact Or.inr rfl))) dgs_nil (fun h1 h2 => pgs_cons h1 h2)) (fun h1 h2 => pgs_cons h1 h2)) (fun h1 h2 => pgs_cons h1 h2)) (fun t ht => pg_tup rfl ht)) (de_ix ix_seq opd_ix (de_do (do_lst (da_cons (de_tup (da_cons de_int (da_cons de_int (da_cons de_int da_nil)))) (da_cons (de_tup (da_cons de_int (da_cons de_int (da_cons de_int da_nil)))) (da_cons (de_tup (da_cons de_int (da_cons de_int (da_cons de_int da_nil)))) (da_cons (de_tup (da_cons de_int (da_cons de_int (da_cons de_int da_nil)))) (da_cons (de_tup (da_cons de_int (da_cons de_int (da_cons de_int da_nil)))) (da_cons (de_tup (da_cons de_int (da_cons de_int (da_cons de_int da_nil)))) (da_cons (de_tup (da_cons de_int (da_cons de_int (da_cons de_int da_nil)))) (da_cons (de_tup (da_cons de_int (da_cons de_int (da_cons de_int da_nil)))) (da_cons (de_tup (da_cons de_int (da_cons de_int (da_cons de_int da_nil)))) (da_cons (de_tup (da_cons de_int (da_cons de_int (da_cons de_int da_nil)))) da_nil)))))))))))) (de_op op_mod od_mod (de_ty call_int1 cd_int rfl T.b_int PyProof.Rows.Boot.«int» (da_cons (de_var 2 (pv 2)) da_nil)) de_int) (fun _ _ => rfl)) (fun t u ht hu => ps_asg ht hu))
    (db_tail
      (ds_setO (i := 6) (do_lst da_nil) (fun t ht => ps_set (i := 6) nd rfl (by first | exact Or.inl rfl | exact Or.inr rfl) ht))
      (di_r1 rfl T.b_range (da_cons (de_var 3 (pv 3)) da_nil))
      (do_lcx (own := [("x", 8)]) (ix := [8]) rfl nd (blkOk_by (own := [("x", 8)]) (by kernel_rfl)) (di_list (de_cl c_law_digits hr (by decide) rfl (takes_of rfl rfl rfl rfl) (da_cons (de_var 0 (pv 0)) (da_cons (de_op op_add od_add (de_op op_add od_add (de_var 1 (pv 1)) de_int) (de_var 7 (pv 7))) (da_cons (de_var 4 (pv 4)) (da_cons (de_op op_add od_add (de_var 5 (pv 5)) de_int) da_nil)))))) (fun _ _ _ _ _ => (dg_name (pg_name (i := 8) nd rfl (by first | exact Or.inl rfl | exact Or.inr rfl)))) (fun _ _ _ _ _ => dts_nil) (fun _ _ _ _ _ => (de_var 8 (pv 8))) (by decide))
      (fun wi t hi ht => ps_for (passes_of rfl) rfl hi (pg_name (i := 7) nd rfl (by first | exact Or.inl rfl | exact Or.inr rfl)) (pss_one (ps_expr (pe_bm PySem.F.plainAttrs_list PySem.F.slot_list_append PySem.F.type_list_append mt_append (pv 6) (pa_cons ht pa_nil) rfl))))
      (di_r1 rfl T.b_range (da_cons (de_var 4 (pv 4)) da_nil))
      (dt_cmp (op_eqD hr.units) opd_eq (de_do (do_lcx (own := [("row", 10)]) (ix := [10]) rfl nd (blkOk_by (own := [("row", 10)]) (by kernel_rfl)) (di_list (de_var 6 (pv 6))) (fun _ _ _ _ _ => (dg_name (pg_name (i := 10) nd rfl (by first | exact Or.inl rfl | exact Or.inr rfl)))) (fun _ _ _ _ _ => (dts_one (dt_cmp op_gt od_gt (de_ix ix_seq opd_ix (de_var 10 (pv 10)) (de_var 9 (pv 9)) (fun _ _ => rfl)) de_int (nomark _)))) (fun _ _ _ _ _ => (de_var 10 (pv 10))) (by decide))) (de_do (do_lst da_nil)) (nomark _))
      (de_op op_add od_add de_int (de_op op_mod od_mod (de_ty call_int1 cd_int rfl T.b_int PyProof.Rows.Boot.«int» (da_cons (de_op op_fdiv od_div (de_var 2 (pv 2)) (de_op op_add od_add de_int (de_var 9 (pv 9)))) da_nil)) (de_var 5 (pv 5))))
      (de_op op_mod od_mod (de_ty call_int1 cd_int rfl T.b_int PyProof.Rows.Boot.«int» (da_cons (de_op op_add od_add (de_op op_fdiv od_div (de_var 2 (pv 2)) de_int) (de_var 9 (pv 9))) da_nil)) (de_var 3 (pv 3)))
      (fun wi tc tv ti h1 h2 h3 h4 => ps_for (passes_of rfl) rfl h1 (pg_name (i := 9) nd rfl (by first | exact Or.inl rfl | exact Or.inr rfl)) (pss_one (ps_if h2 (pss_one (ps_asg h3 (pg_sub (pe_ix ix_seq (pv 6) h4 (fun _ _ => rfl)) (pv 9) set_list))) pss_nil)))
      (ps_ret (pv 6))))))
end K80
end

section
set_option Elab.async false
set_option linter.all false
set_option maxRecDepth 100000
set_option maxHeartbeats 2000000
namespace K80
open PySem PySem.Spec PyProof.Rows L2 Nm

/-! ### the drawn table is a table -/
structure Tp (hg wd j : Nat) (rows : List (List Int)) : Prop where
  hl : rows.length = hg
  hw : ∀ r ∈ rows, r.length = wd
  he : ∀ r ∈ rows, ∀ y ∈ r, 0 ≤ y ∧ y ≤ 9
  hc : ∀ j' < j, ∃ (i : Nat) (hi : i < rows.length), 0 < rows[i].getD j' 0
theorem tp_step {hg wd j : Nat} {rows : List (List Int)} {ri : Nat → Nat} {v : Nat → Int} (T : Tp hg wd j rows) (hj : j < wd) (hr : ri j < hg) (hv : 1 ≤ v j ∧ v j ≤ 9) : Tp hg wd (j + 1) (stp bT ri v rows j) := by
  have hri : ri j < rows.length := by rw [T.hl]; exact hr
  refine ⟨by rw [stp_len, T.hl], stp_row hri T.hw, ?_, ?_⟩
  · unfold stp
    split
    · intro r hm y hy
      rcases List.mem_or_eq_of_mem_set hm with hm | rfl
      · exact T.he r hm y hy
      · rcases List.mem_or_eq_of_mem_set hy with hy | rfl
        · rw [List.getD_eq_getElem?_getD, List.getElem?_eq_getElem hri] at hy
          exact T.he _ (List.getElem_mem hri) y hy
        · omega
    · exact T.he
  · unfold stp
    split
    · intro j' hj'
      have hlr : rows[ri j].length = wd := T.hw _ (List.getElem_mem hri)
      have hg : rows.getD (ri j) [] = rows[ri j] := by rw [List.getD_eq_getElem?_getD, List.getElem?_eq_getElem hri]; rfl
      rw [hg]
      by_cases h : j' = j
      · subst h
        refine ⟨ri j', by simpa using hri, ?_⟩
        rw [List.getElem_set_self, List.getD_eq_getElem?_getD, List.getElem?_set_self (by omega)]
        show 0 < v j'
        omega
      · obtain ⟨i, hi, hp⟩ := T.hc j' (by omega)
        refine ⟨i, by simpa using hi, ?_⟩
        by_cases h2 : ri j = i
        · subst h2
          rw [List.getElem_set_self, List.getD_eq_getElem?_getD, List.getElem?_set_ne (fun z => h z.symm), ← List.getD_eq_getElem?_getD]
          exact hp
        · rw [List.getElem_set_ne h2]
          exact hp
    · rename_i hb
      intro j' hj'
      by_cases h : j' = j
      · subst h
        unfold bT at hb
        cases hf : rows.filter fun r => decide (0 < r.getD j' 0) with
        | nil =>
          rw [hf] at hb
          exact absurd rfl hb
        | cons r rs =>
          have hm : r ∈ rows.filter fun r => decide (0 < r.getD j' 0) := by rw [hf]; exact List.mem_cons_self
          obtain ⟨hm1, hm2⟩ := List.mem_filter.mp hm
          obtain ⟨i, hi, e⟩ := List.getElem_of_mem hm1
          exact ⟨i, hi, by rw [e]; exact of_decide_eq_true hm2⟩
      · exact T.hc j' (by omega)
theorem rows_is (ns : List Int) (c : Int) {h w m : Int} (hk : (h, w, m) ∈ kinds) : Tp h.toNat w.toNat w.toNat (rowsOf ns c h w m) := by
  have hkk := kinds_is hk
  have key : ∀ j ≤ w.toNat, Tp h.toNat w.toNat j (fin2 bT (riF c h) (vF c m) (rows0 ns h w m) j) := by
    intro j
    induction j with
    | zero =>
      intro _
      refine ⟨by simp [fin2, rows0], fun r hr => ?_, fun r hr y hy => ?_, fun j' hj' => by omega⟩
      · obtain ⟨i, hi, rfl⟩ := List.mem_map.mp hr
        have := List.mem_range.mp hi
        exact (dgN_is ns i hk (by omega)).2.1
      · obtain ⟨i, hi, rfl⟩ := List.mem_map.mp hr
        have := List.mem_range.mp hi
        have := (dgN_is ns i hk (by omega)).2.2 y hy
        omega
    | succ j ih =>
      intro hj
      rw [fin2_succ]
      refine tp_step (ih (by omega)) (by omega) (mX2_is (ns := []) (c := c) (k0 := .no) hk (j := j) (by omega)).1 ?_
      have p1 := Int.emod_nonneg (c / (30 + (j : Int))) (show m ≠ 0 by omega)
      have p2 := Int.emod_lt_of_pos (c / (30 + (j : Int))) (show 0 < m by omega)
      unfold vF
      omega
  exact key _ (Nat.le_refl _)
theorem tp_vt {hg wd : Nat} {rows : List (List Int)} (T : Tp hg wd wd rows) (h1 : 1 ≤ hg) (h2 : hg ≤ 1000) (w1 : 1 ≤ wd) (w8 : wd ≤ 8) : Vt rows wd := by
  refine ⟨⟨⟨fun z => ?_, by rw [T.hl]; exact h2, by omega, T.hw⟩, fun r hr y hy => by have := T.he r hr y hy; omega⟩, w1, w8, fun j hj => ?_⟩
  · have := T.hl
    rw [z] at this
    simp at this
    omega
  · obtain ⟨i, hi, hp⟩ := T.hc j hj
    refine ⟨i, hi, ?_⟩
    unfold colAt
    rw [List.getD_eq_getElem?_getD, List.getElem?_map, List.getElem?_eq_getElem hi]
    exact hp
theorem tkind_is (s a : Cell) (c : Int) : ∃ h w m, (h, w, m) ∈ kinds ∧ m_tkind [s, a, .sh (.int c), .no, .no, .no, .no, .no, .no, .no, .no] = .nx [s, a, .sh (.int c), .sh (.int h), .sh (.int w), .sh (.int m), .no, .no, .no, .no, .no] := by
  have hm : cMod c 10 = true := mod_of (by decide)
  have z3 : (3 : Nat) ≤ sizeLine := by rw [sizeLine_eq]; omega
  have z10 : (10 : Nat) ≤ sizeLine := by rw [sizeLine_eq]; omega
  have hn : c % 10 = 0 ∨ c % 10 = 1 ∨ c % 10 = 2 ∨ c % 10 = 3 ∨ c % 10 = 4 ∨ c % 10 = 5 ∨ c % 10 = 6 ∨ c % 10 = 7 ∨ c % 10 = 8 ∨ c % 10 = 9 := by omega
  rcases hn with h | h | h | h | h | h | h | h | h | h
  · exact ⟨1, 3, 6, by decide, by simp [m_tkind, hm, z3, z10, h, L2.atI, L2.ixN, gTp]⟩
  · exact ⟨1, 2, 9, by decide, by simp [m_tkind, hm, z3, z10, h, L2.atI, L2.ixN, gTp]⟩
  · exact ⟨2, 3, 3, by decide, by simp [m_tkind, hm, z3, z10, h, L2.atI, L2.ixN, gTp]⟩
  · exact ⟨1, 4, 4, by decide, by simp [m_tkind, hm, z3, z10, h, L2.atI, L2.ixN, gTp]⟩
  · exact ⟨2, 4, 2, by decide, by simp [m_tkind, hm, z3, z10, h, L2.atI, L2.ixN, gTp]⟩
  · exact ⟨1, 3, 9, by decide, by simp [m_tkind, hm, z3, z10, h, L2.atI, L2.ixN, gTp]⟩
  · exact ⟨1, 1, 9, by decide, by simp [m_tkind, hm, z3, z10, h, L2.atI, L2.ixN, gTp]⟩
  · exact ⟨2, 2, 5, by decide, by simp [m_tkind, hm, z3, z10, h, L2.atI, L2.ixN, gTp]⟩
  · exact ⟨3, 3, 2, by decide, by simp [m_tkind, hm, z3, z10, h, L2.atI, L2.ixN, gTp]⟩
  · exact ⟨2, 3, 2, by decide, by simp [m_tkind, hm, z3, z10, h, L2.atI, L2.ixN, gTp]⟩
abbrev fTb : List D → FR := frun 11 m_law_table
theorem table_is (ns : List Int) : ∃ rows w, fTb [dF ns, .int 0] = .ow (rows.map dI) ∧ Vt rows w ∧ w ≤ 4 ∧ ∀ r ∈ rows, ∀ y ∈ r, y ≤ 9 := by
  obtain ⟨c, hc⟩ := cell_is ns 0 (by omega)
  have hc' : fC [dF ns, .int 0] = .sh (.int c) := hc
  obtain ⟨h, w, m, hk, hK⟩ := tkind_is (.sh (dF ns)) (.sh (.int 0)) c
  have hkk := kinds_is hk
  have T := rows_is ns c hk
  refine ⟨rowsOf ns c h w m, w.toNat, ?_, tp_vt T (by omega) (by omega) (by omega) (by omega), by omega, fun r hr y hy => (T.he r hr y hy).2⟩
  have s1 : m_tcell (env0 11 [dF ns, .int 0]) = .nx [.sh (dF ns), .sh (.int 0), .sh (.int c), .no, .no, .no, .no, .no, .no, .no, .no] := by
    simp [m_tcell, env0, hc']
  have s3 : mTail [.sh (dF ns), .sh (.int 0), .sh (.int c), .sh (.int h), .sh (.int w), .sh (.int m), .no, .no, .no, .no, .no] = .rt (.ow ((rowsOf ns c h w m).map dI)) (List.replicate 11 .no) := by
    have : tailOf [.sh (dF ns), .sh (.int 0), .sh (.int c), .sh (.int h), .sh (.int w), .sh (.int m), .no, .no, .no, .no, .no] = some (rowsOf ns c h w m) := by
      simp [tailOf, hk]
    unfold mTail
    rw [this]
  unfold fTb frun m_law_table
  rw [sSeq_nx s1, sSeq_nx hK, s3]
  rfl
abbrev fLaw : List D → FR := frun 15 (m_law fBt fBp fPt fSm fTb fC fDg fLt fLc fTo fWh fTd)
theorem law_is (ns : List Int) : fLaw [dF ns] = .sh (.bl true) := law_true (table_is ns)
end K80
end

section
set_option Elab.async false
set_option linter.all false
set_option maxRecDepth 100000
set_option maxHeartbeats 4000000
namespace K80
open PySem PySem.Spec PyProof.Rows L2 Nm

section
variable {P : Program} {w : World} {K : PySem.W.Frag} {mg : Str → Option Value} {base : Heap}
theorem cal_mk {k n : Nat} {x qual : Str} {st : Stmt} {fa : Addr} {fd : FuncData} {ps : List Str} {f : List D → FR} (ok : FnOk P w K mg base (L2.CX P w) k fa fd ps (spF K mg n f)) (F : Fun K x qual st fa fd) (g : mg x = some (.ref fa)) (b : Binds K fd ps []) : CalN P w K mg base k x n f :=
  ⟨fa, fd, ps, ok, g, F.kp, b⟩
theorem cal_up {j k n : Nat} {x : Str} {f : List D → FR} (h : CalN P w K mg base j x n f) (hk : j ≤ k) : CalN P w K mg base k x n f := by
  obtain ⟨fa, fd, ps, ok, g, kp, b⟩ := h.ex
  exact ⟨fa, fd, ps, ok.mono hk, g, kp, b⟩
theorem fn_bad {k n : Nat} {fa : Addr} {fd : FuncData} {ps : List Str} : FnOk P w K mg base (L2.CX P w) k fa fd ps (spF K mg n fun _ => .bad) :=
  ⟨fun vs H Q E ⟨_, G, ds, _, _, q⟩ => q.elim, fun A outer s H args us vs Q E hr he hb hv ⟨_, G, ds, _, _, q⟩ => q.elim⟩
end
theorem all_ok {a : Ad} {P : Program} {w : World} {K : PySem.W.Frag} {mg : Str → Option Value} {base : Heap} (T : Tx a P w K mg base)
    {a_check_table : Addr} {d_check_table : FuncData} (F_check_table : Fun K "check_table" "check_table" s_check_table a_check_table d_check_table) (g_check_table : mg "check_table" = some (.ref a_check_table))
    {a_totals : Addr} {d_totals : FuncData} (F_totals : Fun K "totals" "totals" s_totals a_totals d_totals) (g_totals : mg "totals" = some (.ref a_totals))
    {a_most_pieces : Addr} {d_most_pieces : FuncData} (F_most_pieces : Fun K "most_pieces" "most_pieces" s_most_pieces a_most_pieces d_most_pieces) (g_most_pieces : mg "most_pieces" = some (.ref a_most_pieces))
    {a_choices : Addr} {d_choices : FuncData} (F_choices : Fun K "choices" "choices" s_choices a_choices d_choices) (g_choices : mg "choices" = some (.ref a_choices))
    {a_law_cell : Addr} {d_law_cell : FuncData} (F_law_cell : Fun K "_law_cell" "_law_cell" s_law_cell a_law_cell d_law_cell) (g_law_cell : mg "_law_cell" = some (.ref a_law_cell))
    {a_law_digits : Addr} {d_law_digits : FuncData} (F_law_digits : Fun K "_law_digits" "_law_digits" s_law_digits a_law_digits d_law_digits) (g_law_digits : mg "_law_digits" = some (.ref a_law_digits))
    {a_law_same : Addr} {d_law_same : FuncData} (F_law_same : Fun K "_law_same" "_law_same" s_law_same a_law_same d_law_same) (g_law_same : mg "_law_same" = some (.ref a_law_same))
    {a_law_totals : Addr} {d_law_totals : FuncData} (F_law_totals : Fun K "_law_totals" "_law_totals" s_law_totals a_law_totals d_law_totals) (g_law_totals : mg "_law_totals" = some (.ref a_law_totals))
    {a_law_choices : Addr} {d_law_choices : FuncData} (F_law_choices : Fun K "_law_choices" "_law_choices" s_law_choices a_law_choices d_law_choices) (g_law_choices : mg "_law_choices" = some (.ref a_law_choices))
    {a_law_is_whole : Addr} {d_law_is_whole : FuncData} (F_law_is_whole : Fun K "_law_is_whole" "_law_is_whole" s_law_is_whole a_law_is_whole d_law_is_whole) (g_law_is_whole : mg "_law_is_whole" = some (.ref a_law_is_whole))
    {a_law_bad_table : Addr} {d_law_bad_table : FuncData} (F_law_bad_table : Fun K "_law_bad_table" "_law_bad_table" s_law_bad_table a_law_bad_table d_law_bad_table) (g_law_bad_table : mg "_law_bad_table" = some (.ref a_law_bad_table))
    {a_law_bad_part : Addr} {d_law_bad_part : FuncData} (F_law_bad_part : Fun K "_law_bad_part" "_law_bad_part" s_law_bad_part a_law_bad_part d_law_bad_part) (g_law_bad_part : mg "_law_bad_part" = some (.ref a_law_bad_part))
    {a_law_part : Addr} {d_law_part : FuncData} (F_law_part : Fun K "_law_part" "_law_part" s_law_part a_law_part d_law_part) (g_law_part : mg "_law_part" = some (.ref a_law_part))
    {a_law_told : Addr} {d_law_told : FuncData} (F_law_told : Fun K "_law_told" "_law_told" s_law_told a_law_told d_law_told) (g_law_told : mg "_law_told" = some (.ref a_law_told))
    {a_law_table : Addr} {d_law_table : FuncData} (F_law_table : Fun K "_law_table" "_law_table" s_law_table a_law_table d_law_table) (g_law_table : mg "_law_table" = some (.ref a_law_table))
    {a_law : Addr} {d_law : FuncData} (F_law : Fun K "law" "law" s_law a_law d_law) (g_law : mg "law" = some (.ref a_law))
    : FnOk P w K mg base (L2.CX P w) 31 a_law d_law ["script"] (spF K mg 1 fLaw) := by
  have c_check_table := cal_mk (ok_check_table T F_check_table) F_check_table g_check_table (F_check_table.binds (ps := ["table"]) fun _ _ _ _ _ _ us hl => match us, hl with | [_], _ => rfl)
  have c_totals := cal_mk (ok_totals T F_totals) F_totals g_totals (F_totals.binds (ps := ["table", "vector"]) fun _ _ _ _ _ _ us hl => match us, hl with | [_, _], _ => rfl)
  have c_most_pieces := cal_mk (ok_most_pieces T F_most_pieces) F_most_pieces g_most_pieces (F_most_pieces.binds (ps := ["column", "left"]) fun _ _ _ _ _ _ us hl => match us, hl with | [_, _], _ => rfl)
  have c_choices : CalK P w K mg base 4 "choices" 2 ["most"] fCh := by
    refine ⟨a_choices, d_choices, ["table", "due", "most"], ok_choices T c_check_table c_most_pieces F_choices, g_choices, F_choices.kp, fun s us ws hu hw => ?_⟩
    obtain ⟨oc, od, kV, doc, pm, an, cdv, ct, osl, rfl, lk, hcd⟩ := F_choices.ex
    match us, ws, hu, hw with
    | [_, _], [_], _, _ => exact .of_eq rfl
  have c_law_cell := cal_mk (ok_law_cell T F_law_cell) F_law_cell g_law_cell (F_law_cell.binds (ps := ["script", "k"]) fun _ _ _ _ _ _ us hl => match us, hl with | [_, _], _ => rfl)
  have c_law_digits := cal_mk (ok_law_digits T c_law_cell F_law_digits) F_law_digits g_law_digits (F_law_digits.binds (ps := ["script", "at", "count", "base"]) fun _ _ _ _ _ _ us hl => match us, hl with | [_, _, _, _], _ => rfl)
  have same : ∀ n, FnOk P w K mg base (L2.CX P w) n a_law_same d_law_same ["told", "due"] (spF K mg 2 (fS n)) := by
    intro n
    induction n with
    | zero => exact fn_bad
    | succ n ih => exact ok_law_same T (cal_mk ih F_law_same g_law_same (F_law_same.binds (ps := ["told", "due"]) fun _ _ _ _ _ _ us hl => match us, hl with | [_, _], _ => rfl)) F_law_same
  have c_law_same := cal_up (k := 30) (cal_mk (same 6) F_law_same g_law_same (F_law_same.binds (ps := ["told", "due"]) fun _ _ _ _ _ _ us hl => match us, hl with | [_, _], _ => rfl)) (by decide)
  have c_law_totals := cal_mk (ok_law_totals T F_law_totals) F_law_totals g_law_totals (F_law_totals.binds (ps := ["table", "vector"]) fun _ _ _ _ _ _ us hl => match us, hl with | [_, _], _ => rfl)
  have c_law_choices := cal_mk (ok_law_choices T F_law_choices) F_law_choices g_law_choices (F_law_choices.binds (ps := ["table", "due"]) fun _ _ _ _ _ _ us hl => match us, hl with | [_, _], _ => rfl)
  have c_law_is_whole := cal_mk (ok_law_is_whole T F_law_is_whole) F_law_is_whole g_law_is_whole (F_law_is_whole.binds (ps := ["told", "due"]) fun _ _ _ _ _ _ us hl => match us, hl with | [_, _], _ => rfl)
  have c_law_bad_table := cal_mk (ok_law_bad_table T c_law_cell F_law_bad_table) F_law_bad_table g_law_bad_table (F_law_bad_table.binds (ps := ["script"]) fun _ _ _ _ _ _ us hl => match us, hl with | [_], _ => rfl)
  have c_law_bad_part := cal_mk (ok_law_bad_part T F_law_bad_part) F_law_bad_part g_law_bad_part (F_law_bad_part.binds (ps := ["table"]) fun _ _ _ _ _ _ us hl => match us, hl with | [_], _ => rfl)
  have c_law_part := cal_mk (ok_law_part T c_check_table c_choices F_law_part) F_law_part g_law_part (F_law_part.binds (ps := ["kind", "table"]) fun _ _ _ _ _ _ us hl => match us, hl with | [_, _], _ => rfl)
  have c_law_told := cal_mk (ok_law_told T c_choices F_law_told) F_law_told g_law_told (F_law_told.binds (ps := ["table", "due", "most"]) fun _ _ _ _ _ _ us hl => match us, hl with | [_, _, _], _ => rfl)
  have c_law_table := cal_mk (ok_law_table T c_law_cell c_law_digits F_law_table) F_law_table g_law_table (F_law_table.binds (ps := ["script", "at"]) fun _ _ _ _ _ _ us hl => match us, hl with | [_, _], _ => rfl)
  exact ok_law T c_law_bad_table c_law_bad_part c_law_part c_law_same c_law_table c_law_cell c_law_digits c_law_totals c_law_choices c_totals c_law_is_whole c_law_told F_law
end K80
end

section
set_option Elab.async false
set_option linter.all false
set_option maxRecDepth 100000
set_option maxHeartbeats 4000000
namespace K80
open PySem PySem.Spec PyProof.Rows L2 Nm

def spL (K : PySem.W.Frag) : Sp := fun vs H Q E => vs.length = 1 ∧ ∃ G ns, Same G H ∧ Rps K G vs [dF ns] ∧ ∀ G2 H2, Gr G H G2 H2 → Q (.bl true) H2
theorem law_sp {P : Program} {w : World} {K : PySem.W.Frag} {mg : Str → Option Value} {base : Heap} {k : Nat} {fa : Addr} {fd : FuncData} {ps : List Str} (F : FnOk P w K mg base (L2.CX P w) k fa fd ps (spF K mg 1 fLaw)) : FnOk P w K mg base (L2.CX P w) k fa fd ps (spL K) :=
  F.imp fun vs H Q E ⟨hl, G, ns, sG, rs, q⟩ => ⟨hl, G, [dF ns], sG, rs, by
    rw [law_is]
    intro v G2 H2 g r
    cases r
    exact q G2 H2 g⟩
theorem cls_of {K : PySem.W.Frag} {t : Value} {S : Addr} {b : Bool} (h2 : PySem.W.isClsIn K S = true) (h3 : PySem.W.typeIn K (.ref S) = some (.type "type")) (h4 : PySem.W.subIn K t (.ref S) = some b) : PySem.W.kitCls K t (.ref S) = some b := by
  have e2 : ((PySem.W.clsIn K S).isSome && PySem.W.typeIn K (.ref S) == some (.type "type")) = true := by
    have h2' : (PySem.W.clsIn K S).isSome = true := h2
    rw [h2', h3] <;> rfl
  show (if ((PySem.W.clsIn K S).isSome && PySem.W.typeIn K (.ref S) == some (.type "type")) = true then PySem.W.subIn K t (.ref S) else none) = some b
  rw [if_pos e2]
  exact h4
theorem exm_of {K : PySem.W.Frag} {t : Value} {S : Addr} {b : Bool} (h1 : PySem.W.subIn K (.ref S) (.type "BaseException") = some true) (h : PySem.W.kitCls K t (.ref S) = some b) : PySem.W.exmOne K t (.ref S) = some b := by
  have e1 : (PySem.W.subIn K (.ref S) (.type "BaseException") == some true) = true := by rw [h1] <;> rfl
  show (if (PySem.W.subIn K (.ref S) (.type "BaseException") == some true) = true then PySem.W.kitCls K t (.ref S) else none) = some b
  rw [if_pos e1]
  exact h
theorem kit_ne {K : PySem.W.Frag} {t c : Value} {b : Bool} (hd : (t == c) = false) (h : PySem.W.kitCls K t c = some b) : PySem.W.kitOne K t c = some b := by
  unfold PySem.W.kitOne
  rw [hd]
  exact h
theorem kit_self {K : PySem.W.Frag} {S : Addr} : PySem.W.kitOne K (.ref S) (.ref S) = some true := by
  unfold PySem.W.kitOne
  rw [if_pos (by simp)]
theorem kit_ty2 {K : PySem.W.Frag} {S : Addr} {b : Bool} (h : PySem.W.subIn K (.ref S) (.type "ValueError") = some b) : PySem.W.kitOne K (.ref S) (.type "ValueError") = some b :=
  kit_ne rfl h
theorem k80_mk {P : Program} {w : World} {K : PySem.W.Frag} {h : Heap} {mg : Str → Option Value} {fa : Addr} (X : K.In h) (G : h.Ns mainGlobals mg) (hfa : mg "law" = some (.ref fa))
    {CN CT CM CR fI cda cc NT a_check_table a_totals a_most_pieces a_choices a_law_cell a_law_digits a_law_same a_law_totals a_law_choices a_law_is_whole a_law_bad_table a_law_bad_part a_law_part a_law_told a_law_table a_law : Addr} {odI anI cdd cld ddT od_check_table an_check_table od_totals an_totals od_most_pieces an_most_pieces od_choices an_choices od_law_cell an_law_cell od_law_digits an_law_digits od_law_same an_law_same od_law_totals an_law_totals od_law_choices an_law_choices od_law_is_whole an_law_is_whole od_law_bad_table an_law_bad_table od_law_bad_part an_law_bad_part od_law_part an_law_part od_law_told an_law_told od_law_table an_law_table od_law an_law : Option Addr} {ocI dcI pmI ctI ccl clc oc_check_table dc_check_table pm_check_table cd_check_table ct_check_table kV_check_table oc_totals dc_totals pm_totals cd_totals ct_totals kV_totals oc_most_pieces dc_most_pieces pm_most_pieces cd_most_pieces ct_most_pieces kV_most_pieces oc_choices dc_choices pm_choices cd_choices ct_choices kV_choices oc_law_cell dc_law_cell pm_law_cell cd_law_cell ct_law_cell kV_law_cell oc_law_digits dc_law_digits pm_law_digits cd_law_digits ct_law_digits kV_law_digits oc_law_same dc_law_same pm_law_same cd_law_same ct_law_same kV_law_same oc_law_totals dc_law_totals pm_law_totals cd_law_totals ct_law_totals kV_law_totals oc_law_choices dc_law_choices pm_law_choices cd_law_choices ct_law_choices kV_law_choices oc_law_is_whole dc_law_is_whole pm_law_is_whole cd_law_is_whole ct_law_is_whole kV_law_is_whole oc_law_bad_table dc_law_bad_table pm_law_bad_table cd_law_bad_table ct_law_bad_table kV_law_bad_table oc_law_bad_part dc_law_bad_part pm_law_bad_part cd_law_bad_part ct_law_bad_part kV_law_bad_part oc_law_part dc_law_part pm_law_part cd_law_part ct_law_part kV_law_part oc_law_told dc_law_told pm_law_told cd_law_told ct_law_told kV_law_told oc_law_table dc_law_table pm_law_table cd_law_table ct_law_table kV_law_table oc_law dc_law pm_law cd_law ct_law kV_law : Value}
    {file nmT qT : Str} {tI tE tf : Tok} {bsT bmT : List Value} {snT : List Str} {subT : List Value} {abT : Bool} {colT : Option Bool} {kT0 kT1 kT2 kT3 kT5 : Option Value}
    {oslI ccs csl sl_check_table sl_totals sl_most_pieces sl_choices sl_law_cell sl_law_digits sl_law_same sl_law_totals sl_law_choices sl_law_is_whole sl_law_bad_table sl_law_bad_part sl_law_part sl_law_told sl_law_table sl_law : Array (Option Value)} {vs0 : Array Value} {paI : Arguments} {cdC : ClassData} {arI : Arg} {p0 p1 p2 p3 p4 p5 p6 p7 p8 q1 q2 q3 q4 q5 : Pos}
    (pfile : ((P.main.file : Str) == file) = true) (ptop : (P.main.scope.names.lookup ("super" : Str)).isSome = false)
    (n_ValueError : PySem.W.nsIn K mainGlobals "ValueError" = some none)
    (n_bool : PySem.W.nsIn K mainGlobals "bool" = some none)
    (n_enumerate : PySem.W.nsIn K mainGlobals "enumerate" = some none)
    (n_int : PySem.W.nsIn K mainGlobals "int" = some none)
    (n_isinstance : PySem.W.nsIn K mainGlobals "isinstance" = some none)
    (n_len : PySem.W.nsIn K mainGlobals "len" = some none)
    (n_list : PySem.W.nsIn K mainGlobals "list" = some none)
    (n_min : PySem.W.nsIn K mainGlobals "min" = some none)
    (n_range : PySem.W.nsIn K mainGlobals "range" = some none)
    (n_reversed : PySem.W.nsIn K mainGlobals "reversed" = some none)
    (n_str : PySem.W.nsIn K mainGlobals "str" = some none)
    (n_sum : PySem.W.nsIn K mainGlobals "sum" = some none)
    (n_tuple : PySem.W.nsIn K mainGlobals "tuple" = some none)
    (n_super : PySem.W.nsIn K mainGlobals "super" = some none)
    (v_I : PySem.W.nsIn K mainGlobals "MOST_ITEMS" = some (some (.int 8 tI)))
    (v_E : PySem.W.nsIn K mainGlobals "MOST_ENTRY" = some (some (.int 1000 tE)))
    (g_N : PySem.W.nsIn K mainGlobals "NoughtError" = some (some (.ref CN)))
    (g_T : PySem.W.nsIn K mainGlobals "InvalidTable" = some (some (.ref CT)))
    (g_M : PySem.W.nsIn K mainGlobals "TooMany" = some (some (.ref CM)))
    (g_R : PySem.W.nsIn K mainGlobals "InvalidRing" = some (some (.ref CR)))
    (xT : K.lookup CT = some (excClassObj nmT qT CT NT bsT bmT true snT subT abT colT ddT kT0 kT1 kT2 kT3 kT5 "ValueError.__new__"))
    (rT : PySem.HandSPX.refsVE bmT = true)
    (saT : PySem.W.findIn K (.ref CT) "__setattr__" = some (some (.builtin "object.__setattr__")))
    (eT : PySem.W.subIn K (.ref CT) (.type "BaseException") = some true)
    (tT : PySem.W.typeIn K (.ref CT) = some (.type "type"))
    (kT : PySem.W.keepIn K (.ref CT) = true)
    (iT : PySem.W.findIn K (.ref CT) "__init__" = some (some (.ref fI)))
    (tI2 : PySem.W.typeIn K (.ref fI) = some (.type "function"))
    (gaT : PySem.W.findIn K (.ref CT) "__getattribute__" = some (some (.builtin "BaseException.__getattribute__")))
    (ggT : PySem.W.findIn K (.ref CT) "__getattr__" = some none)
    (hdT : PySem.W.hasDictIn K CT = true)
    (nfT : PySem.W.findIn K (.ref CT) "part" = some none)
    (cdIn : PySem.W.codeIn K (.ref cda) "InvalidTable.__init__" = true)
    (lI : K.lookup fI = some ⟨ocI, odI, .func (PySem.W.ksFn "__init__" "InvalidTable.__init__" paI (bodyI "the " " of a table" p0 p1 p2 p3 p4 p5 p6 p7 p8 q1 q2 q3 q4 q5) scI .none .none dcI pmI anI (.ref cda) ctI cc), oslI⟩)
    (hcode : K.lookup cda = some ⟨ccl, cdd, .fields vs0, ccs⟩) (hvs : vs0[2]? = some (.str file tf)) (hcell : K.lookup cc = some ⟨clc, cld, .cell (some (.ref CT)), csl⟩)
    (hC : PySem.W.clsIn K CT = some cdC) (hsub : PySem.W.mroIn K CT (.ref CT) = some true) (hB : PySem.W.subIn K (.ref CT) (.type "ValueError") = some true) (hany : PySem.W.nsIn K cStatics "thirdparty.any" = some none) (hsup : PySem.W.ks_superIn K CT CT "__init__" = some (some (.builtin "ValueError.__init__")))
    (hp : (paI.posonlyargs ++ paI.args).head? = some arI) (har : arI.arg = "self")
    (hev : ∀ L, ∃ pl, eval (.Call (.Attribute (.Call (.Name "super" p0) [] [] p1) "__init__" p2) [.JoinedStr [.Constant (.str "the ") 0 q1, .FormattedValue (.Name "part" q2) (-1) none q3, .Constant (.str " of a table") 0 q4] q5] [] p3) (PySem.W.ksEnv "InvalidTable.__init__" scI L fI (.ref cda) cc) = (do
      let ov ← attributeBase (.Call (.Name "super" p0) [] [] p1) "__init__" (PySem.W.ksEnv "InvalidTable.__init__" scI L fI (.ref cda) cc) (eval (.Call (.Name "super" p0) [] [] p1) (PySem.W.ksEnv "InvalidTable.__init__" scI L fI (.ref cda) cc))
      standAt p2.atName
      let (fx, first) ← holding [ov] (getMethod ov "__init__" pl)
      callWith p3 fx first (backTo p3 (starEach [.JoinedStr [.Constant (.str "the ") 0 q1, .FormattedValue (.Name "part" q2) (-1) none q3, .Constant (.str " of a table") 0 q4] q5] (PySem.W.ksEnv "InvalidTable.__init__" scI L fI (.ref cda) cc))) []))
    (bI : Binds K (PySem.W.ksFn "__init__" "InvalidTable.__init__" paI (bodyI "the " " of a table" p0 p1 p2 p3 p4 p5 p6 p7 p8 q1 q2 q3 q4 q5) scI .none .none dcI pmI anI (.ref cda) ctI cc) ["self", "part"] [])
    (ecM : PySem.W.excIn K CM [.type "ValueError", .type "Exception", .type "BaseException", .type "object"] "ValueError.__new__" = true) (kM : PySem.W.keepIn K (.ref CM) = true) (eM : PySem.W.subIn K (.ref CM) (.type "BaseException") = some true) (tM : PySem.W.typeIn K (.ref CM) = some (.type "type"))
    (icN : PySem.W.isClsIn K CN = true) (tcN : PySem.W.typeIn K (.ref CN) = some (.type "type"))
    (icT : PySem.W.isClsIn K CT = true) (tcT : PySem.W.typeIn K (.ref CT) = some (.type "type"))
    (icM : PySem.W.isClsIn K CM = true) (tcM : PySem.W.typeIn K (.ref CM) = some (.type "type"))
    (icR : PySem.W.isClsIn K CR = true) (tcR : PySem.W.typeIn K (.ref CR) = some (.type "type"))
    (eN : PySem.W.subIn K (.ref CN) (.type "BaseException") = some true)
    (sTN : PySem.W.subIn K (.ref CT) (.ref CN) = some true)
    (sMN : PySem.W.subIn K (.ref CM) (.ref CN) = some true)
    (sTT : PySem.W.subIn K (.ref CT) (.ref CT) = some true)
    (sMT : PySem.W.subIn K (.ref CM) (.ref CT) = some false)
    (sTM : PySem.W.subIn K (.ref CT) (.ref CM) = some false)
    (sMM : PySem.W.subIn K (.ref CM) (.ref CM) = some true)
    (sTR : PySem.W.subIn K (.ref CT) (.ref CR) = some false)
    (sMR : PySem.W.subIn K (.ref CM) (.ref CR) = some false)
    (sTV : PySem.W.subIn K (.ref CT) (.type "ValueError") = some true) (sMV : PySem.W.subIn K (.ref CM) (.type "ValueError") = some true)
    (dMT : ((Value.ref CM == Value.ref CT) = false)) (dTM : ((Value.ref CT == Value.ref CM) = false)) (dTR : ((Value.ref CT == Value.ref CR) = false)) (dMR : ((Value.ref CM == Value.ref CR) = false))
    (yTg : PySem.W.findIn K (.ref CT) "__getattribute__" = some (some (.builtin "BaseException.__getattribute__")))
    (yTk : PySem.W.findIn K (.ref CT) "__getattr__" = some none)
    (yTs : PySem.W.subIn K (.ref CT) (.type "BaseException") = some true)
    (yTd : PySem.W.hasDictIn K CT = true)
    (yTa : PySem.W.findIn K (.ref CT) "__class__" = some (some (.builtin "object.__class__")))
    (yTm : PySem.W.mroIn K CT (.type "object") = some true)
    (yMg : PySem.W.findIn K (.ref CM) "__getattribute__" = some (some (.builtin "BaseException.__getattribute__")))
    (yMk : PySem.W.findIn K (.ref CM) "__getattr__" = some none)
    (yMs : PySem.W.subIn K (.ref CM) (.type "BaseException") = some true)
    (yMd : PySem.W.hasDictIn K CM = true)
    (yMa : PySem.W.findIn K (.ref CM) "__class__" = some (some (.builtin "object.__class__")))
    (yMm : PySem.W.mroIn K CM (.type "object") = some true)
    (yn : PySem.W.specialIn K (.builtin "object.__class__") "__get__" = some (some (.builtin "getset_descriptor.__get__"))) (yt : PySem.W.takesIn K (.builtin "object.__class__") = some true)
    (acheck_table : PySem.W.nsIn K mainGlobals "check_table" = some (some (.ref a_check_table))) (lcheck_table : K.lookup a_check_table = some ⟨oc_check_table, od_check_table, .func (PySem.W.fnOf "check_table" "check_table" (defArgs s_check_table) (defBody s_check_table) (defScope s_check_table) .none kV_check_table dc_check_table pm_check_table an_check_table cd_check_table ct_check_table), sl_check_table⟩) (ccheck_table : PySem.W.codeIn K cd_check_table "check_table" = true) (kcheck_table : PySem.W.keepIn K (.ref a_check_table) = true)
    (atotals : PySem.W.nsIn K mainGlobals "totals" = some (some (.ref a_totals))) (ltotals : K.lookup a_totals = some ⟨oc_totals, od_totals, .func (PySem.W.fnOf "totals" "totals" (defArgs s_totals) (defBody s_totals) (defScope s_totals) .none kV_totals dc_totals pm_totals an_totals cd_totals ct_totals), sl_totals⟩) (ctotals : PySem.W.codeIn K cd_totals "totals" = true) (ktotals : PySem.W.keepIn K (.ref a_totals) = true)
    (amost_pieces : PySem.W.nsIn K mainGlobals "most_pieces" = some (some (.ref a_most_pieces))) (lmost_pieces : K.lookup a_most_pieces = some ⟨oc_most_pieces, od_most_pieces, .func (PySem.W.fnOf "most_pieces" "most_pieces" (defArgs s_most_pieces) (defBody s_most_pieces) (defScope s_most_pieces) .none kV_most_pieces dc_most_pieces pm_most_pieces an_most_pieces cd_most_pieces ct_most_pieces), sl_most_pieces⟩) (cmost_pieces : PySem.W.codeIn K cd_most_pieces "most_pieces" = true) (kmost_pieces : PySem.W.keepIn K (.ref a_most_pieces) = true)
    (achoices : PySem.W.nsIn K mainGlobals "choices" = some (some (.ref a_choices))) (lchoices : K.lookup a_choices = some ⟨oc_choices, od_choices, .func (PySem.W.fnOf "choices" "choices" (defArgs s_choices) (defBody s_choices) (defScope s_choices) .none kV_choices dc_choices pm_choices an_choices cd_choices ct_choices), sl_choices⟩) (cchoices : PySem.W.codeIn K cd_choices "choices" = true) (kchoices : PySem.W.keepIn K (.ref a_choices) = true)
    (alaw_cell : PySem.W.nsIn K mainGlobals "_law_cell" = some (some (.ref a_law_cell))) (llaw_cell : K.lookup a_law_cell = some ⟨oc_law_cell, od_law_cell, .func (PySem.W.fnOf "_law_cell" "_law_cell" (defArgs s_law_cell) (defBody s_law_cell) (defScope s_law_cell) .none kV_law_cell dc_law_cell pm_law_cell an_law_cell cd_law_cell ct_law_cell), sl_law_cell⟩) (claw_cell : PySem.W.codeIn K cd_law_cell "_law_cell" = true) (klaw_cell : PySem.W.keepIn K (.ref a_law_cell) = true)
    (alaw_digits : PySem.W.nsIn K mainGlobals "_law_digits" = some (some (.ref a_law_digits))) (llaw_digits : K.lookup a_law_digits = some ⟨oc_law_digits, od_law_digits, .func (PySem.W.fnOf "_law_digits" "_law_digits" (defArgs s_law_digits) (defBody s_law_digits) (defScope s_law_digits) .none kV_law_digits dc_law_digits pm_law_digits an_law_digits cd_law_digits ct_law_digits), sl_law_digits⟩) (claw_digits : PySem.W.codeIn K cd_law_digits "_law_digits" = true) (klaw_digits : PySem.W.keepIn K (.ref a_law_digits) = true)
    (alaw_same : PySem.W.nsIn K mainGlobals "_law_same" = some (some (.ref a_law_same))) (llaw_same : K.lookup a_law_same = some ⟨oc_law_same, od_law_same, .func (PySem.W.fnOf "_law_same" "_law_same" (defArgs s_law_same) (defBody s_law_same) (defScope s_law_same) .none kV_law_same dc_law_same pm_law_same an_law_same cd_law_same ct_law_same), sl_law_same⟩) (claw_same : PySem.W.codeIn K cd_law_same "_law_same" = true) (klaw_same : PySem.W.keepIn K (.ref a_law_same) = true)
    (alaw_totals : PySem.W.nsIn K mainGlobals "_law_totals" = some (some (.ref a_law_totals))) (llaw_totals : K.lookup a_law_totals = some ⟨oc_law_totals, od_law_totals, .func (PySem.W.fnOf "_law_totals" "_law_totals" (defArgs s_law_totals) (defBody s_law_totals) (defScope s_law_totals) .none kV_law_totals dc_law_totals pm_law_totals an_law_totals cd_law_totals ct_law_totals), sl_law_totals⟩) (claw_totals : PySem.W.codeIn K cd_law_totals "_law_totals" = true) (klaw_totals : PySem.W.keepIn K (.ref a_law_totals) = true)
    (alaw_choices : PySem.W.nsIn K mainGlobals "_law_choices" = some (some (.ref a_law_choices))) (llaw_choices : K.lookup a_law_choices = some ⟨oc_law_choices, od_law_choices, .func (PySem.W.fnOf "_law_choices" "_law_choices" (defArgs s_law_choices) (defBody s_law_choices) (defScope s_law_choices) .none kV_law_choices dc_law_choices pm_law_choices an_law_choices cd_law_choices ct_law_choices), sl_law_choices⟩) (claw_choices : PySem.W.codeIn K cd_law_choices "_law_choices" = true) (klaw_choices : PySem.W.keepIn K (.ref a_law_choices) = true)
    (alaw_is_whole : PySem.W.nsIn K mainGlobals "_law_is_whole" = some (some (.ref a_law_is_whole))) (llaw_is_whole : K.lookup a_law_is_whole = some ⟨oc_law_is_whole, od_law_is_whole, .func (PySem.W.fnOf "_law_is_whole" "_law_is_whole" (defArgs s_law_is_whole) (defBody s_law_is_whole) (defScope s_law_is_whole) .none kV_law_is_whole dc_law_is_whole pm_law_is_whole an_law_is_whole cd_law_is_whole ct_law_is_whole), sl_law_is_whole⟩) (claw_is_whole : PySem.W.codeIn K cd_law_is_whole "_law_is_whole" = true) (klaw_is_whole : PySem.W.keepIn K (.ref a_law_is_whole) = true)
    (alaw_bad_table : PySem.W.nsIn K mainGlobals "_law_bad_table" = some (some (.ref a_law_bad_table))) (llaw_bad_table : K.lookup a_law_bad_table = some ⟨oc_law_bad_table, od_law_bad_table, .func (PySem.W.fnOf "_law_bad_table" "_law_bad_table" (defArgs s_law_bad_table) (defBody s_law_bad_table) (defScope s_law_bad_table) .none kV_law_bad_table dc_law_bad_table pm_law_bad_table an_law_bad_table cd_law_bad_table ct_law_bad_table), sl_law_bad_table⟩) (claw_bad_table : PySem.W.codeIn K cd_law_bad_table "_law_bad_table" = true) (klaw_bad_table : PySem.W.keepIn K (.ref a_law_bad_table) = true)
    (alaw_bad_part : PySem.W.nsIn K mainGlobals "_law_bad_part" = some (some (.ref a_law_bad_part))) (llaw_bad_part : K.lookup a_law_bad_part = some ⟨oc_law_bad_part, od_law_bad_part, .func (PySem.W.fnOf "_law_bad_part" "_law_bad_part" (defArgs s_law_bad_part) (defBody s_law_bad_part) (defScope s_law_bad_part) .none kV_law_bad_part dc_law_bad_part pm_law_bad_part an_law_bad_part cd_law_bad_part ct_law_bad_part), sl_law_bad_part⟩) (claw_bad_part : PySem.W.codeIn K cd_law_bad_part "_law_bad_part" = true) (klaw_bad_part : PySem.W.keepIn K (.ref a_law_bad_part) = true)
    (alaw_part : PySem.W.nsIn K mainGlobals "_law_part" = some (some (.ref a_law_part))) (llaw_part : K.lookup a_law_part = some ⟨oc_law_part, od_law_part, .func (PySem.W.fnOf "_law_part" "_law_part" (defArgs s_law_part) (defBody s_law_part) (defScope s_law_part) .none kV_law_part dc_law_part pm_law_part an_law_part cd_law_part ct_law_part), sl_law_part⟩) (claw_part : PySem.W.codeIn K cd_law_part "_law_part" = true) (klaw_part : PySem.W.keepIn K (.ref a_law_part) = true)
    (alaw_told : PySem.W.nsIn K mainGlobals "_law_told" = some (some (.ref a_law_told))) (llaw_told : K.lookup a_law_told = some ⟨oc_law_told, od_law_told, .func (PySem.W.fnOf "_law_told" "_law_told" (defArgs s_law_told) (defBody s_law_told) (defScope s_law_told) .none kV_law_told dc_law_told pm_law_told an_law_told cd_law_told ct_law_told), sl_law_told⟩) (claw_told : PySem.W.codeIn K cd_law_told "_law_told" = true) (klaw_told : PySem.W.keepIn K (.ref a_law_told) = true)
    (alaw_table : PySem.W.nsIn K mainGlobals "_law_table" = some (some (.ref a_law_table))) (llaw_table : K.lookup a_law_table = some ⟨oc_law_table, od_law_table, .func (PySem.W.fnOf "_law_table" "_law_table" (defArgs s_law_table) (defBody s_law_table) (defScope s_law_table) .none kV_law_table dc_law_table pm_law_table an_law_table cd_law_table ct_law_table), sl_law_table⟩) (claw_table : PySem.W.codeIn K cd_law_table "_law_table" = true) (klaw_table : PySem.W.keepIn K (.ref a_law_table) = true)
    (alaw : PySem.W.nsIn K mainGlobals "law" = some (some (.ref a_law))) (llaw : K.lookup a_law = some ⟨oc_law, od_law, .func (PySem.W.fnOf "law" "law" (defArgs s_law) (defBody s_law) (defScope s_law) .none kV_law dc_law pm_law an_law cd_law ct_law), sl_law⟩) (claw : PySem.W.codeIn K cd_law "law" = true) (klaw : PySem.W.keepIn K (.ref a_law) = true)
    : ∃ fd : FuncData, (∀ (s : Shared) (u : Value), BindsTo s fd ⟨[u], []⟩ [("script", u)]) ∧ ∀ base : Heap, K.In base → base.Ns mainGlobals mg → FnOk P w K mg base (L2.CX P w) 31 fa fd ["script"] (spL K) := by
  have e := hfa.symm.trans (PySem.W.mg_of X G alaw)
  cases e
  have oxT : OexC K CT := ⟨⟨nmT, qT, NT, bsT, bmT, snT, subT, abT, colT, ddT, kT0, kT1, kT2, kT3, kT5, xT, rT⟩, saT, eT, tT, kT⟩
  have eCT : ExcC K CT := ⟨yTg, yTk, yTs, yTd, yTa, yn, yt, yTm⟩
  have eCM : ExcC K CM := ⟨yMg, yMk, yMs, yMd, yMa, yn, yt, yMm⟩
  refine ⟨_, fun s u => .of_eq rfl, fun base _ _ => law_sp (all_ok (a := ⟨CN, CT, CM, CR, fI, PySem.W.ksFn "__init__" "InvalidTable.__init__" paI (bodyI "the " " of a table" p0 p1 p2 p3 p4 p5 p6 p7 p8 q1 q2 q3 q4 q5) scI .none .none dcI pmI anI (.ref cda) ctI cc⟩) ?T (fun_mk (st := s_check_table) lcheck_table ccheck_table kcheck_table) (PySem.W.mg_of X G acheck_table) (fun_mk (st := s_totals) ltotals ctotals ktotals) (PySem.W.mg_of X G atotals) (fun_mk (st := s_most_pieces) lmost_pieces cmost_pieces kmost_pieces) (PySem.W.mg_of X G amost_pieces) (fun_mk (st := s_choices) lchoices cchoices kchoices) (PySem.W.mg_of X G achoices) (fun_mk (st := s_law_cell) llaw_cell claw_cell klaw_cell) (PySem.W.mg_of X G alaw_cell) (fun_mk (st := s_law_digits) llaw_digits claw_digits klaw_digits) (PySem.W.mg_of X G alaw_digits) (fun_mk (st := s_law_same) llaw_same claw_same klaw_same) (PySem.W.mg_of X G alaw_same) (fun_mk (st := s_law_totals) llaw_totals claw_totals klaw_totals) (PySem.W.mg_of X G alaw_totals) (fun_mk (st := s_law_choices) llaw_choices claw_choices klaw_choices) (PySem.W.mg_of X G alaw_choices) (fun_mk (st := s_law_is_whole) llaw_is_whole claw_is_whole klaw_is_whole) (PySem.W.mg_of X G alaw_is_whole) (fun_mk (st := s_law_bad_table) llaw_bad_table claw_bad_table klaw_bad_table) (PySem.W.mg_of X G alaw_bad_table) (fun_mk (st := s_law_bad_part) llaw_bad_part claw_bad_part klaw_bad_part) (PySem.W.mg_of X G alaw_bad_part) (fun_mk (st := s_law_part) llaw_part claw_part klaw_part) (PySem.W.mg_of X G alaw_part) (fun_mk (st := s_law_told) llaw_told claw_told klaw_told) (PySem.W.mg_of X G alaw_told) (fun_mk (st := s_law_table) llaw_table claw_table klaw_table) (PySem.W.mg_of X G alaw_table) (fun_mk (st := s_law) llaw claw klaw) (PySem.W.mg_of X G alaw))⟩
  case T =>
    exact {
      b_ValueError := PySem.W.mg_none_of X G n_ValueError
      b_bool := PySem.W.mg_none_of X G n_bool
      b_enumerate := PySem.W.mg_none_of X G n_enumerate
      b_int := PySem.W.mg_none_of X G n_int
      b_isinstance := PySem.W.mg_none_of X G n_isinstance
      b_len := PySem.W.mg_none_of X G n_len
      b_list := PySem.W.mg_none_of X G n_list
      b_min := PySem.W.mg_none_of X G n_min
      b_range := PySem.W.mg_none_of X G n_range
      b_reversed := PySem.W.mg_none_of X G n_reversed
      b_str := PySem.W.mg_none_of X G n_str
      b_sum := PySem.W.mg_none_of X G n_sum
      b_tuple := PySem.W.mg_none_of X G n_tuple
      g_MOST_ITEMS := ⟨tI, PySem.W.mg_of X G v_I⟩
      g_MOST_ENTRY := ⟨tE, PySem.W.mg_of X G v_E⟩
      x_NoughtError := PySem.W.mg_of X G g_N
      x_InvalidTable := ⟨PySem.W.mg_of X G g_T, oxT, iT, tI2, init_super lI cdIn hcode hvs pfile hcell hC hsub hB hany hsup (PySem.W.mg_none_of X G n_super) ptop oxT nfT hp har (by decide) hev, bI, ⟨gaT, ggT, eT, hdT⟩, nfT⟩
      x_TooMany := ⟨PySem.W.mg_of X G g_M, ecM, kM, eM, tM⟩
      x_InvalidRing := ⟨PySem.W.mg_of X G g_R⟩
      tk_NoughtError := fun q hq => by
        simp only [List.mem_cons, List.not_mem_nil, or_false] at hq
        rcases hq with rfl | rfl
        · exact ⟨_, PySem.W.mg_of X G g_T, exm_of eN (cls_of icN tcN sTN)⟩
        · exact ⟨_, PySem.W.mg_of X G g_M, exm_of eN (cls_of icN tcN sMN)⟩
      is_InvalidTable := fun q hq => by
        simp only [List.mem_cons, List.not_mem_nil, or_false] at hq
        rcases hq with rfl | rfl
        · exact ⟨_, PySem.W.mg_of X G g_T, eCT, kit_self⟩
        · exact ⟨_, PySem.W.mg_of X G g_M, eCM, kit_ne dMT (cls_of icT tcT sMT)⟩
      is_TooMany := fun q hq => by
        simp only [List.mem_cons, List.not_mem_nil, or_false] at hq
        rcases hq with rfl | rfl
        · exact ⟨_, PySem.W.mg_of X G g_T, eCT, kit_ne dTM (cls_of icM tcM sTM)⟩
        · exact ⟨_, PySem.W.mg_of X G g_M, eCM, kit_self⟩
      is_InvalidRing := fun q hq => by
        simp only [List.mem_cons, List.not_mem_nil, or_false] at hq
        rcases hq with rfl | rfl
        · exact ⟨_, PySem.W.mg_of X G g_T, eCT, kit_ne dTR (cls_of icR tcR sTR)⟩
        · exact ⟨_, PySem.W.mg_of X G g_M, eCM, kit_ne dMR (cls_of icR tcR sMR)⟩
      is_ValueError := fun q hq => by
        simp only [List.mem_cons, List.not_mem_nil, or_false] at hq
        rcases hq with rfl | rfl
        · exact ⟨_, PySem.W.mg_of X G g_T, eCT, kit_ty2 sTV⟩
        · exact ⟨_, PySem.W.mg_of X G g_M, eCM, kit_ty2 sMV⟩
    }
theorem k80_end {l : PySem.W.OpenLaw} {q : Program} {loose : List Str} {XP : (Str → Option Value) → Heap → Prop} {YP : World → Heap → Prop} {d : DefRec} {K : Params → PySem.W.Frag} (hn : l.most = some 63) (hdf : d.params.defaults = [])
    (hY : ∀ (w : World) (h : Heap), YP w h → (K w.params).In h)
    (F : ∀ (w : World) (mg : Str → Option Value) (fa : Addr) (h : Heap), (K w.params).In h → h.Ns mainGlobals mg → mg d.name = some (.ref fa) →
      ∃ fd : FuncData, (∀ (s : Shared) (u : Value), BindsTo s fd ⟨[u], []⟩ [("script", u)]) ∧ ∀ base : Heap, (K w.params).In base → base.Ns mainGlobals mg → FnOk l.prog w (K w.params) mg base (L2.CX l.prog w) 31 fa fd ["script"] (spL (K w.params))) :
    PySem.W.WalkO q loose XP YP l.row.toRowW d [] (fun f vs => PySem.call f vs) :=
  L2.walk_of (n := 63) (k := 31) (x := "script") (CX := fun w => L2.CX l.prog w) (sp := fun w => spL (K w.params)) hn (by decide) hdf ⟨rfl, by decide, by decide⟩ hY F
    (fun w H a ns hl hO hS => ⟨rfl, H, ns, fun _ _ z => z, .cons (.fz hS (rps_refs.rps_ints ns)) .nil, fun G2 H2 g => rfl⟩)
    (fun w H s e s' hx => by
      obtain ⟨a, B, H', cls, d, h1, h2, h3, h4, h5, h6, h7, h8⟩ := hx
      exact h8)
end K80
end

section
set_option Elab.async false
set_option linter.all false
set_option maxRecDepth 100000
open PySem PySem.W PyProof.Rows
set_option maxHeartbeats 0 in
theorem PySem.Challenge.cw_noughtmeet_k80_choices_of_tables_holds : PySem.Challenge.rw_noughtmeet_k80_choices_of_tables.Holds := by
  w_on; o_law; k_head; (case hw => w_witness2)
  k_fill
  refine K80.k80_end (l := PySem.Challenge.rw_noughtmeet_k80_choices_of_tables) rfl rfl (fun w h Y => PySem.W.kIn_of Y) ?F
  case F =>
    intro w mg fa h KX G hmg
    refine' K80.k80_mk KX G hmg ?pfile ?ptop ?n_ValueError ?n_bool ?n_enumerate ?n_int ?n_isinstance ?n_len ?n_list ?n_min ?n_range ?n_reversed ?n_str ?n_sum ?n_tuple ?n_super ?v_I ?v_E ?g_N ?g_T ?g_M ?g_R ?xT ?rT ?saT ?eT ?tT ?kT ?iT ?tI2 ?gaT ?ggT ?hdT ?nfT ?cdIn ?lI ?hcode ?hvs ?hcell ?hC ?hsub ?hB ?hany ?hsup ?hp ?har ?hev ?bI ?ecM ?kM ?eM ?tM ?icN ?tcN ?icT ?tcT ?icM ?tcM ?icR ?tcR ?eN ?sTN ?sMN ?sTT ?sMT ?sTM ?sMM ?sTR ?sMR ?sTV ?sMV ?dMT ?dTM ?dTR ?dMR ?yTg ?yTk ?yTs ?yTd ?yTa ?yTm ?yMg ?yMk ?yMs ?yMd ?yMa ?yMm ?yn ?yt ?acheck_table ?lcheck_table ?ccheck_table ?kcheck_table ?atotals ?ltotals ?ctotals ?ktotals ?amost_pieces ?lmost_pieces ?cmost_pieces ?kmost_pieces ?achoices ?lchoices ?cchoices ?kchoices ?alaw_cell ?llaw_cell ?claw_cell ?klaw_cell ?alaw_digits ?llaw_digits ?claw_digits ?klaw_digits ?alaw_same ?llaw_same ?claw_same ?klaw_same ?alaw_totals ?llaw_totals ?claw_totals ?klaw_totals ?alaw_choices ?llaw_choices ?claw_choices ?klaw_choices ?alaw_is_whole ?llaw_is_whole ?claw_is_whole ?klaw_is_whole ?alaw_bad_table ?llaw_bad_table ?claw_bad_table ?klaw_bad_table ?alaw_bad_part ?llaw_bad_part ?claw_bad_part ?klaw_bad_part ?alaw_part ?llaw_part ?claw_part ?klaw_part ?alaw_told ?llaw_told ?claw_told ?klaw_told ?alaw_table ?llaw_table ?claw_table ?klaw_table ?alaw ?llaw ?claw ?klaw
    (case n_ValueError => first | k_is | ks_is)
    (case n_bool => first | k_is | ks_is)
    (case n_enumerate => first | k_is | ks_is)
    (case n_int => first | k_is | ks_is)
    (case n_isinstance => first | k_is | ks_is)
    (case n_len => first | k_is | ks_is)
    (case n_list => first | k_is | ks_is)
    (case n_min => first | k_is | ks_is)
    (case n_range => first | k_is | ks_is)
    (case n_reversed => first | k_is | ks_is)
    (case n_str => first | k_is | ks_is)
    (case n_sum => first | k_is | ks_is)
    (case n_tuple => first | k_is | ks_is)
    (case n_super => first | k_is | ks_is)
    (case v_I => first | k_is | ks_is)
    (case v_E => first | k_is | ks_is)
    (case g_N => first | k_is | ks_is)
    (case g_T => first | k_is | ks_is)
    (case g_M => first | k_is | ks_is)
    (case g_R => first | k_is | ks_is)
    (case xT => first | k_is | ks_is)
    (case saT => first | k_is | ks_is)
    (case eT => first | k_is | ks_is)
    (case tT => first | k_is | ks_is)
    (case kT => first | k_is | ks_is)
    (case iT => first | k_is | ks_is)
    (case tI2 => first | k_is | ks_is)
    (case gaT => first | k_is | ks_is)
    (case ggT => first | k_is | ks_is)
    (case hdT => first | k_is | ks_is)
    (case nfT => first | k_is | ks_is)
    (case lI => first | k_is | ks_is)
    (case hcode => first | k_is | ks_is)
    (case hcell => first | k_is | ks_is)
    (case hC => first | k_is | ks_is)
    (case hsub => first | k_is | ks_is)
    (case hB => first | k_is | ks_is)
    (case hany => first | k_is | ks_is)
    (case hsup => first | ks_is | k_is)
    (case ecM => k_exc)
    (case kM => first | k_is | ks_is)
    (case eM => first | k_is | ks_is)
    (case tM => first | k_is | ks_is)
    (case icN => first | k_is | ks_is)
    (case tcN => first | k_is | ks_is)
    (case icT => first | k_is | ks_is)
    (case tcT => first | k_is | ks_is)
    (case icM => first | k_is | ks_is)
    (case tcM => first | k_is | ks_is)
    (case icR => first | k_is | ks_is)
    (case tcR => first | k_is | ks_is)
    (case eN => first | k_is | ks_is)
    (case sTN => first | rfl | k_is)
    (case sMN => first | rfl | k_is)
    (case sTT => first | rfl | k_is)
    (case sMT => first | rfl | k_is)
    (case sTM => first | rfl | k_is)
    (case sMM => first | rfl | k_is)
    (case sTR => first | rfl | k_is)
    (case sMR => first | rfl | k_is)
    (case sTV => first | k_is | ks_is)
    (case sMV => first | k_is | ks_is)
    (case yTg => first | k_is | ks_is)
    (case yTk => first | k_is | ks_is)
    (case yTs => first | k_is | ks_is)
    (case yTd => first | k_is | ks_is)
    (case yTa => first | k_is | ks_is)
    (case yTm => first | k_is | ks_is)
    (case yMg => first | k_is | ks_is)
    (case yMk => first | k_is | ks_is)
    (case yMs => first | k_is | ks_is)
    (case yMd => first | k_is | ks_is)
    (case yMa => first | k_is | ks_is)
    (case yMm => first | k_is | ks_is)
    (case yn => first | k_is | ks_is)
    (case yt => first | k_is | ks_is)
    (case acheck_table => first | k_is | ks_is)
    (case lcheck_table => first | k_is | ks_is)
    (case ccheck_table => first | k_is | ks_is)
    (case kcheck_table => first | k_is | ks_is)
    (case atotals => first | k_is | ks_is)
    (case ltotals => first | k_is | ks_is)
    (case ctotals => first | k_is | ks_is)
    (case ktotals => first | k_is | ks_is)
    (case amost_pieces => first | k_is | ks_is)
    (case lmost_pieces => first | k_is | ks_is)
    (case cmost_pieces => first | k_is | ks_is)
    (case kmost_pieces => first | k_is | ks_is)
    (case achoices => first | k_is | ks_is)
    (case lchoices => first | k_is | ks_is)
    (case cchoices => first | k_is | ks_is)
    (case kchoices => first | k_is | ks_is)
    (case alaw_cell => first | k_is | ks_is)
    (case llaw_cell => first | k_is | ks_is)
    (case claw_cell => first | k_is | ks_is)
    (case klaw_cell => first | k_is | ks_is)
    (case alaw_digits => first | k_is | ks_is)
    (case llaw_digits => first | k_is | ks_is)
    (case claw_digits => first | k_is | ks_is)
    (case klaw_digits => first | k_is | ks_is)
    (case alaw_same => first | k_is | ks_is)
    (case llaw_same => first | k_is | ks_is)
    (case claw_same => first | k_is | ks_is)
    (case klaw_same => first | k_is | ks_is)
    (case alaw_totals => first | k_is | ks_is)
    (case llaw_totals => first | k_is | ks_is)
    (case claw_totals => first | k_is | ks_is)
    (case klaw_totals => first | k_is | ks_is)
    (case alaw_choices => first | k_is | ks_is)
    (case llaw_choices => first | k_is | ks_is)
    (case claw_choices => first | k_is | ks_is)
    (case klaw_choices => first | k_is | ks_is)
    (case alaw_is_whole => first | k_is | ks_is)
    (case llaw_is_whole => first | k_is | ks_is)
    (case claw_is_whole => first | k_is | ks_is)
    (case klaw_is_whole => first | k_is | ks_is)
    (case alaw_bad_table => first | k_is | ks_is)
    (case llaw_bad_table => first | k_is | ks_is)
    (case claw_bad_table => first | k_is | ks_is)
    (case klaw_bad_table => first | k_is | ks_is)
    (case alaw_bad_part => first | k_is | ks_is)
    (case llaw_bad_part => first | k_is | ks_is)
    (case claw_bad_part => first | k_is | ks_is)
    (case klaw_bad_part => first | k_is | ks_is)
    (case alaw_part => first | k_is | ks_is)
    (case llaw_part => first | k_is | ks_is)
    (case claw_part => first | k_is | ks_is)
    (case klaw_part => first | k_is | ks_is)
    (case alaw_told => first | k_is | ks_is)
    (case llaw_told => first | k_is | ks_is)
    (case claw_told => first | k_is | ks_is)
    (case klaw_told => first | k_is | ks_is)
    (case alaw_table => first | k_is | ks_is)
    (case llaw_table => first | k_is | ks_is)
    (case claw_table => first | k_is | ks_is)
    (case klaw_table => first | k_is | ks_is)
    (case alaw => first | k_is | ks_is)
    (case llaw => first | k_is | ks_is)
    (case claw => first | k_is | ks_is)
    (case klaw => first | k_is | ks_is)
    (case cdIn => first | k_is | ks_is)
    (case dMT => first | rfl | decide +kernel)
    (case dTM => first | rfl | decide +kernel)
    (case dTR => first | rfl | decide +kernel)
    (case dMR => first | rfl | decide +kernel)
    (case hvs => exact rfl)
    (case pfile => first | rfl | decide +kernel)
    (case ptop => first | rfl | decide +kernel)
    (case rT => first | rfl | decide +kernel)
    (case hp => exact rfl)
    (case har => exact rfl)
    (case hev => exact fun L => ⟨_, rfl⟩)
    (case bI => exact .all fun us hl => match us, hl with | [_, _], _ => rfl)
end
